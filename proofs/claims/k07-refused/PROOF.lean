import PyProof.Rows.All
import Wide.All
import OpenK.AllK
import Wide.FinOn
import PySem.Challenge.RW_rolereach_k07_deeds_refused
import HandS.ForMost
import HandS.Walk
import HandS.HeadHook2
import HandS.TupAny
import HandS.Star
import HandS.Flow
import HandS.CallSlots
import HandS.TryMany
import HandS.Deep
import HandS.SortInts
import HandS.IsInst
import HandS.Codes
import HandS.TryOnly
import HandS.Zip
import HandS.StrMore
import HandS.RaiseMore
import HandS.TupLen
import HandS.WordsDict
import HandS.MapJoin
import HandS.Small
import KE.KStateDown
import HandS.Ends
import HandS.More
import HandS.Words
import HandS.WordsExc
import HandS.Head0
import HandS.Head1
import HandS.Head2
import HandS.HeadEnd
import HandS.Style
import HandS.MakeKwOnly
import HandS.MakeKw
import HandS.HeadHook3
import HandS.Nested
import HandS.NestedK
import HandS.ClsMeth
import KE.KSuper
import KE.KStar
import HandS.HeadHook4
import PyProof.InstNe
import HandS.FStr
import HandS.Strs
import PyProof.ReprRoads
import KE.KCallOwn
import PyProof.StrLawsRepr
import HandS.ExcInit
import HandS.ExcField
import KE.KExcSuper
import KE.KTryMore
section
set_option Elab.async false
set_option linter.all false
set_option maxRecDepth 100000
set_option maxHeartbeats 2000000
/-! V1: values by content (D), containers that are owned (Ob), the reader's states, the relation to the abstract heap. -/
namespace VI
open PySem PySem.Spec PyProof.Rows L2

/-! ### data -/
inductive D where
  | non | bl (b : Bool) | int (i : Int) | str (x : Str) | ty (n : String)
  | lst (xs : List D) | tup (xs : List D) | lz (xs : List D) | tz (xs : List D)
  | dk (kvs : List (Key × D)) | dt (kvs : List (List Key × D))
  | ins (c : Str) (fs : List (Str × D))
  | ref (i : Nat)
  | fn (x : Str)
  deriving Inhabited
/-- the content of a container that one place owns -/
inductive Ob where
  | lst (xs : List D) | dk (kvs : List (Key × D)) | dt (kvs : List (List Key × D)) | ins (c : Str) (fs : List (Str × D))
def Ob.d : Ob → D
  | .lst xs => .lst xs
  | .dk kvs => .dk kvs
  | .dt kvs => .dt kvs
  | .ins c fs => .ins c fs
/-- what an expression gives: a datum, a new container, the container that slot i owns -/
inductive Va where
  | im (d : D) | fr (o : Ob) | pl (i : Nat)
/-- a slot: nothing yet, a datum, a container of its own (p: handed in to be changed) -/
inductive Sl where
  | un | im (d : D) | ow (p : Bool) (o : Ob)
structure S where
  env : List Sl
  st : List Ob
/-- an exception: its class, its fields -/
structure Xc where
  c : Str
  fs : List (Str × D)
inductive Rs (α : Type) where
  | ok (a : α) (s : S) | ex (x : Xc) (s : S) | no
def M (α : Type) : Type := S → Rs α
def M.pure {α : Type} (a : α) : M α := fun s => .ok a s
def M.bind {α β : Type} (m : M α) (f : α → M β) : M β := fun s => match m s with
  | .ok a s' => f a s'
  | .ex x s' => .ex x s'
  | .no => .no
instance : Monad M where
  pure := M.pure
  bind := M.bind
@[simp] theorem M.pure_run {α : Type} (a : α) (s : S) : (pure a : M α) s = .ok a s := rfl
theorem M.bind_run {α β : Type} (m : M α) (f : α → M β) (s : S) : (m >>= f) s = match m s with
  | .ok a s' => f a s'
  | .ex x s' => .ex x s'
  | .no => .no := rfl
@[simp] theorem M.bind_ok {α β : Type} {m : M α} {f : α → M β} {s s' : S} {a : α} (h : m s = .ok a s') : (m >>= f) s = f a s' := by
  rw [M.bind_run, h]
def M.opt {α : Type} : Option α → M α
  | some a => pure a
  | none => fun _ => .no
/-- what stands there, read -/
def rd (v : Va) (s : S) : Option D := match v with
  | .im (.ref j) => s.st[j]?.map Ob.d
  | .im d => some d
  | .fr o => some o.d
  | .pl i => match s.env[i]? with
    | some (.ow _ o) => some o.d
    | some (.im (.ref _)) => none
    | some (.im d) => some d
    | _ => none
/-- handed on as a datum: a container that a slot owned is owned no more -/
def esc (v : Va) : M D := fun s => match v with
  | .im d => .ok d s
  | .fr o => .ok o.d s
  | .pl i => match s.env[i]? with
    | some (.ow false o) => .ok o.d { s with env := s.env.set i (.im o.d) }
    | some (.im d) => .ok d s
    | _ => .no

/-! ### the relation -/
/-- a dict may be locked by a loop -/
def isD : HO → Prop
  | .dK _ => True
  | .dT _ => True
  | _ => False
def At (H : Hp) (a : Addr) (o : HO) : Prop := H a = some o ∨ (isD o ∧ ∃ ob, H a = some (.frz ob o))
def Sub (F H : Hp) : Prop := ∀ a o, F a = some o → At H a o

section
variable (K : PySem.W.Frag) (al : List Addr) (F : Hp)
mutual
inductive Dat : D → V → Prop
  | non : Dat .non .non
  | bl (b : Bool) : Dat (.bl b) (.bl b)
  | int (i : Int) : Dat (.int i) (.int i)
  | str (x : Str) : Dat (.str x) (.str x)
  | ty (n : String) : Dat (.ty n) (.ty n)
  | lst {a : Addr} {ds : List D} {vs : List V} : F a = some (.lst vs) → DatL ds vs → ds.length ≤ sizeLine → Dat (.lst ds) (.ref a)
  | lz {a : Addr} {ds : List D} {vs : List V} : SqL K F a vs → DatL ds vs → ds.length ≤ sizeLine → Dat (.lz ds) (.ref a)
  | tup {a : Addr} {ds : List D} {vs : List V} : F a = some (.tup vs) → DatL ds vs → ds.length ≤ sizeLine → Dat (.tup ds) (.ref a)
  | tz {a : Addr} {ds : List D} {vs : List V} : SqT K F a vs → DatL ds vs → ds.length ≤ sizeLine → Dat (.tz ds) (.ref a)
  | dk {a : Addr} {ds : List (Key × D)} {vs : List (Key × V)} : Rd F a (.dK vs) → DatK ds vs → Dat (.dk ds) (.ref a)
  | dt {a : Addr} {ds : List (List Key × D)} {vs : List (List Key × V)} : Rd F a (.dT vs) → DatT ds vs → Dat (.dt ds) (.ref a)
  | ins {a dx : Addr} {c : Str} {ds : List (Str × D)} {vs : List (Str × V)} : F a = some (.ins (He.ga K c) dx vs) → DatF ds vs → Dat (.ins c ds) (.ref a)
  | ref {i : Nat} {a : Addr} : al[i]? = some a → Dat (.ref i) (.ref a)
  | fn (x : Str) : Dat (.fn x) (.ref (He.ga K x))
inductive DatL : List D → List V → Prop
  | nil : DatL [] []
  | cons {d : D} {v : V} {ds : List D} {vs : List V} : Dat d v → DatL ds vs → DatL (d :: ds) (v :: vs)
inductive DatK : List (Key × D) → List (Key × V) → Prop
  | nil : DatK [] []
  | cons {k : Key} {d : D} {v : V} {ds : List (Key × D)} {vs : List (Key × V)} : Dat d v → DatK ds vs → DatK ((k, d) :: ds) ((k, v) :: vs)
inductive DatT : List (List Key × D) → List (List Key × V) → Prop
  | nil : DatT [] []
  | cons {k : List Key} {d : D} {v : V} {ds : List (List Key × D)} {vs : List (List Key × V)} : Dat d v → DatT ds vs → DatT ((k, d) :: ds) ((k, v) :: vs)
inductive DatF : List (Str × D) → List (Str × V) → Prop
  | nil : DatF [] []
  | cons {k : Str} {d : D} {v : V} {ds : List (Str × D)} {vs : List (Str × V)} : Dat d v → DatF ds vs → DatF ((k, d) :: ds) ((k, v) :: vs)
end
/-- a container's object -/
def ObR : Ob → HO → Prop
  | .lst ds, .lst vs => DatL K al F ds vs ∧ ds.length ≤ sizeLine
  | .dk ds, .dK vs => DatK K al F ds vs
  | .dt ds, .dT vs => DatT K al F ds vs
  | .ins c ds, .ins C _ vs => C = He.ga K c ∧ DatF K al F ds vs
  | _, _ => False
end
section
variable {K : PySem.W.Frag} {al al' : List Addr} {F F' H H' : Hp}
/-- the ground grows -/
structure Gr (al : List Addr) (F : Hp) (al' : List Addr) (F' : Hp) : Prop where
  f : ∀ a o, F a = some o → F' a = some o
  al : ∃ l, al' = al ++ l
theorem Gr.refl : Gr al F al F := ⟨fun _ _ h => h, [], by simp⟩
theorem Gr.trans {al2 : List Addr} {F2 : Hp} (g : Gr al F al' F') (h : Gr al' F' al2 F2) : Gr al F al2 F2 := by
  obtain ⟨l, e⟩ := g.al
  obtain ⟨m, e2⟩ := h.al
  exact ⟨fun a o q => h.f a o (g.f a o q), l ++ m, by rw [e2, e, List.append_assoc]⟩
theorem Gr.get (g : Gr al F al' F') {i : Nat} {a : Addr} (h : al[i]? = some a) : al'[i]? = some a := by
  obtain ⟨l, rfl⟩ := g.al
  have := (List.getElem?_eq_some_iff.mp h).1
  rw [List.getElem?_append_left this]
  exact h
theorem Gr.seqL (g : Gr al F al' F') {a : Addr} {vs : List V} (h : SqL K F a vs) : SqL K F' a vs := by
  rcases h with (h | ⟨o, h⟩) | h
  · exact .inl (.inl (g.f _ _ h))
  · exact .inl (.inr ⟨o, g.f _ _ h⟩)
  · exact .inr h
theorem Gr.seqT (g : Gr al F al' F') {a : Addr} {vs : List V} (h : SqT K F a vs) : SqT K F' a vs := by
  rcases h with (h | ⟨o, h⟩) | h
  · exact .inl (.inl (g.f _ _ h))
  · exact .inl (.inr ⟨o, g.f _ _ h⟩)
  · exact .inr h
theorem Gr.rd (g : Gr al F al' F') {a : Addr} {o : HO} (h : Rd F a o) : Rd F' a o := by
  rcases h with h | ⟨ob, h⟩
  · exact .inl (g.f _ _ h)
  · exact .inr ⟨ob, g.f _ _ h⟩
mutual
theorem Dat.mono (g : Gr al F al' F') : ∀ {d : D} {v : V}, Dat K al F d v → Dat K al' F' d v
  | _, _, .non => .non
  | _, _, .bl b => .bl b
  | _, _, .int b => .int b
  | _, _, .str b => .str b
  | _, _, .ty b => .ty b
  | _, _, .lst h l z => .lst (g.f _ _ h) (DatL.mono g l) z
  | _, _, .lz h l z => .lz (g.seqL h) (DatL.mono g l) z
  | _, _, .tup h l z => .tup (g.f _ _ h) (DatL.mono g l) z
  | _, _, .tz h l z => .tz (g.seqT h) (DatL.mono g l) z
  | _, _, .dk h l => .dk (g.rd h) (DatK.mono g l)
  | _, _, .dt h l => .dt (g.rd h) (DatT.mono g l)
  | _, _, .ins h l => .ins (g.f _ _ h) (DatF.mono g l)
  | _, _, .ref h => .ref (g.get h)
  | _, _, .fn x => .fn x
theorem DatL.mono (g : Gr al F al' F') : ∀ {d : List D} {v : List V}, DatL K al F d v → DatL K al' F' d v
  | _, _, .nil => .nil
  | _, _, .cons h l => .cons (Dat.mono g h) (DatL.mono g l)
theorem DatK.mono (g : Gr al F al' F') : ∀ {d : List (Key × D)} {v : List (Key × V)}, DatK K al F d v → DatK K al' F' d v
  | _, _, .nil => .nil
  | _, _, .cons h l => .cons (Dat.mono g h) (DatK.mono g l)
theorem DatT.mono (g : Gr al F al' F') : ∀ {d : List (List Key × D)} {v : List (List Key × V)}, DatT K al F d v → DatT K al' F' d v
  | _, _, .nil => .nil
  | _, _, .cons h l => .cons (Dat.mono g h) (DatT.mono g l)
theorem DatF.mono (g : Gr al F al' F') : ∀ {d : List (Str × D)} {v : List (Str × V)}, DatF K al F d v → DatF K al' F' d v
  | _, _, .nil => .nil
  | _, _, .cons h l => .cons (Dat.mono g h) (DatF.mono g l)
end
theorem ObR.mono (g : Gr al F al' F') {o : Ob} {h : HO} (r : ObR K al F o h) : ObR K al' F' o h := by
  cases o <;> cases h <;> first
    | exact r.elim
    | exact ⟨r.1.mono g, r.2⟩
    | exact ⟨r.1, r.2.mono g⟩
    | exact DatK.mono g r
    | exact DatT.mono g r
/-- frozen: laid into the ground -/
theorem ObR.dat {o : Ob} {h : HO} {a : Addr} (r : ObR K al F o h) (e : F a = some h) : Dat K al F o.d (.ref a) := by
  cases o <;> cases h <;> first
    | exact r.elim
    | exact .lst e r.1 r.2
    | exact .dk (.inl e) r
    | exact .dt (.inl e) r
    | (obtain ⟨rfl, q⟩ := r; exact .ins e q)
theorem DatL.length {ds : List D} {vs : List V} : DatL K al F ds vs → ds.length = vs.length
  | .nil => rfl
  | .cons _ t => congrArg (· + 1) t.length
theorem DatL.get {ds : List D} {vs : List V} {i : Nat} {v : V} : DatL K al F ds vs → vs[i]? = some v → ∃ d, ds[i]? = some d ∧ Dat K al F d v
  | .nil, e => by simp at e
  | .cons h t, e => by
    cases i with
    | zero => simp at e; subst e; exact ⟨_, rfl, h⟩
    | succ i => exact t.get (i := i) (by simpa using e)
theorem DatL.getD {ds : List D} {vs : List V} {i : Nat} {d : D} : DatL K al F ds vs → ds[i]? = some d → ∃ v, vs[i]? = some v ∧ Dat K al F d v
  | .nil, e => by simp at e
  | .cons h t, e => by
    cases i with
    | zero => simp at e; subst e; exact ⟨_, rfl, h⟩
    | succ i => exact t.getD (i := i) (by simpa using e)
theorem DatL.app {ds es : List D} {vs us : List V} : DatL K al F ds vs → DatL K al F es us → DatL K al F (ds ++ es) (vs ++ us)
  | .nil, h => h
  | .cons h t, q => .cons h (t.app q)
theorem DatL.set {ds : List D} {vs : List V} {d : D} {v : V} (h : Dat K al F d v) : ∀ {i : Nat}, DatL K al F ds vs → DatL K al F (ds.set i d) (vs.set i v)
  | _, .nil => .nil
  | 0, .cons _ t => .cons h t
  | i + 1, .cons q t => .cons q (DatL.set h (i := i) t)
theorem DatL.take {ds : List D} {vs : List V} : ∀ {n : Nat}, DatL K al F ds vs → DatL K al F (ds.take n) (vs.take n)
  | 0, h => by simpa using DatL.nil
  | n + 1, .nil => by simpa using DatL.nil
  | n + 1, .cons h t => by simpa using DatL.cons h (t.take (n := n))
theorem DatL.drop {ds : List D} {vs : List V} : ∀ {n : Nat}, DatL K al F ds vs → DatL K al F (ds.drop n) (vs.drop n)
  | 0, h => by simpa using h
  | n + 1, .nil => by simpa using DatL.nil
  | n + 1, .cons h t => by simpa using t.drop (n := n)
end
end VI
end
section
set_option Elab.async false
set_option linter.all false
set_option maxRecDepth 100000
set_option maxHeartbeats 2000000
/-! V2: the relation of a reader's state to a body's state, steps, what an expression's reading is worth. -/
namespace VI
open PySem PySem.Spec PyProof.Rows L2

/-! ### steps of the abstract heap -/
/-- from one state to a later one: T may be changed, Z may be laid into the ground -/
structure Ext (T Z : Addr → Prop) (F : Hp) (al : List Addr) (H : Hp) (F' : Hp) (al' : List Addr) (H' : Hp) : Prop where
  f : ∀ a o, F a = some o → F' a = some o
  fn : ∀ a o, F' a = some o → F a = some o ∨ H a = none ∨ Z a
  al : ∃ l, al' = al ++ l ∧ ∀ a ∈ l, H a = none
  keep : ∀ a o, H a = some o → ¬ T a → H' a = some o
  live : ∀ a, H a ≠ none → H' a ≠ none
section
variable {T Z T2 Z2 : Addr → Prop} {F F1 F2 H H1 H2 : Hp} {al al1 al2 : List Addr}
theorem Ext.refl : Ext T Z F al H F al H := ⟨fun _ _ h => h, fun _ _ h => .inl h, ⟨[], by simp, fun _ h => by simp at h⟩, fun _ _ h _ => h, fun _ h => h⟩
theorem Ext.gr (e : Ext T Z F al H F1 al1 H1) : Gr al F al1 F1 := ⟨e.f, let ⟨l, h, _⟩ := e.al; ⟨l, h⟩⟩
theorem Ext.trans (a : Ext T Z F al H F1 al1 H1) (b : Ext T2 Z2 F1 al1 H1 F2 al2 H2) (hT : ∀ x, T2 x → T x ∨ H x = none) (hZ : ∀ x, Z2 x → Z x ∨ H x = none) : Ext T Z F al H F2 al2 H2 := by
  refine ⟨fun x o h => b.f x o (a.f x o h), fun x o h => ?_, ?_, fun x o h ht => ?_, fun x h => b.live x (a.live x h)⟩
  · rcases b.fn x o h with h | h | h
    · exact a.fn x o h
    · refine .inr (.inl ?_)
      cases q : H x with
      | none => rfl
      | some u => exact absurd h (a.live x (by rw [q]; exact Option.some_ne_none u))
    · rcases hZ x h with h | h
      · exact .inr (.inr h)
      · exact .inr (.inl h)
  · obtain ⟨l, e, n⟩ := a.al
    obtain ⟨m, e2, n2⟩ := b.al
    refine ⟨l ++ m, by rw [e2, e, List.append_assoc], fun x hx => ?_⟩
    rcases List.mem_append.mp hx with hx | hx
    · exact n x hx
    · cases q : H x with
      | none => rfl
      | some u => exact absurd (n2 x hx) (a.live x (by rw [q]; exact Option.some_ne_none u))
  · refine b.keep x o (a.keep x o h ht) fun h2 => ?_
    rcases hT x h2 with h2 | h2
    · exact ht h2
    · rw [h2] at h; cases h
theorem Ext.mono (e : Ext T Z F al H F1 al1 H1) (hT : ∀ x, T x → T2 x ∨ H x = none) (hZ : ∀ x, Z x → Z2 x ∨ H x = none) : Ext T2 Z2 F al H F1 al1 H1 :=
  (Ext.refl (T := T2) (Z := Z2)).trans e hT hZ
/-- a new object, laid into the ground -/
theorem Ext.new {p : Addr} {o : HO} (h : H p = none) (hF : F p = none) : Ext T Z F al H (upd F p o) al (upd H p o) := by
  refine ⟨fun a u q => ?_, fun a u q => ?_, ⟨[], by simp, fun _ h => by simp at h⟩, fun a u q _ => ?_, fun a q => ?_⟩
  · rw [upd_ne (ne_of_none q hF)]; exact q
  · by_cases e : a = p
    · subst e; exact .inr (.inl h)
    · rw [upd_ne e] at q; exact .inl q
  · rw [upd_ne (ne_of_none q h)]; exact q
  · by_cases e : a = p
    · subst e; exact absurd h q
    · rw [upd_ne e]; exact q
/-- a new object, not in the ground -/
theorem Ext.new0 {p : Addr} {o : HO} (h : H p = none) : Ext T Z F al H F al (upd H p o) := by
  refine ⟨fun _ _ q => q, fun _ _ q => .inl q, ⟨[], by simp, fun _ h => by simp at h⟩, fun a u q _ => ?_, fun a q => ?_⟩
  · rw [upd_ne (ne_of_none q h)]; exact q
  · by_cases e : a = p
    · subst e; exact absurd h q
    · rw [upd_ne e]; exact q
/-- an object that may be changed is changed -/
theorem Ext.put {p : Addr} {o : HO} (h : T p) : Ext T Z F al H F al (upd H p o) := by
  refine ⟨fun _ _ q => q, fun _ _ q => .inl q, ⟨[], by simp, fun _ h => by simp at h⟩, fun a u q ht => ?_, fun a q => ?_⟩
  · by_cases e : a = p
    · subst e; exact absurd h ht
    · rw [upd_ne e]; exact q
  · by_cases e : a = p
    · subst e; rw [upd_same]; exact Option.some_ne_none _
    · rw [upd_ne e]; exact q
theorem Sub.put {p : Addr} {o : HO} (s : Sub F H) (hF : F p = none) : Sub F (upd H p o) := fun a u q => by
  unfold At
  rw [upd_ne (ne_of_none q hF)]
  exact s a u q
theorem Sub.new {p : Addr} {o : HO} (s : Sub F H) (hF : F p = none) : Sub (upd F p o) (upd H p o) := fun a u q => by
  by_cases e : a = p
  · subst e; rw [upd_same] at q; cases q; exact .inl upd_same
  · rw [upd_ne e] at q
    exact (s.put hF) a u q
theorem Sub.free {p : Addr} (s : Sub F H) (h : H p = none) : F p = none := by
  cases q : F p with
  | none => rfl
  | some o =>
    rcases s p o q with e | ⟨_, ob, e⟩ <;> (rw [h] at e; cases e)
theorem Sub.there {p : Addr} (s : Sub F H) {o : HO} (h : F p = some o) : H p ≠ none := by
  intro q
  rw [s.free q] at h
  cases h
theorem Sub.here {p : Addr} {o : HO} (s : Sub F H) (h : F p = some o) (n : ¬ isD o) : H p = some o := by
  rcases s p o h with e | ⟨d, _⟩
  · exact e
  · exact absurd d n
theorem Sub.seqL {K : PySem.W.Frag} {p : Addr} {vs : List V} (s : Sub F H) (h : SqL K F p vs) : SqL K H p vs := by
  rcases h with (h | ⟨o, h⟩) | h
  · exact .inl (.inl (s.here h (fun z => z)))
  · exact .inl (.inr ⟨o, s.here h (fun z => z)⟩)
  · exact .inr h
theorem Sub.seqT {K : PySem.W.Frag} {p : Addr} {vs : List V} (s : Sub F H) (h : SqT K F p vs) : SqT K H p vs := by
  rcases h with (h | ⟨o, h⟩) | h
  · exact .inl (.inl (s.here h (fun z => z)))
  · exact .inl (.inr ⟨o, s.here h (fun z => z)⟩)
  · exact .inr h
theorem Sub.rd {p : Addr} {o : HO} (s : Sub F H) (h : Rd F p o) : Rd H p o := by
  rcases h with h | ⟨ob, h⟩
  · rcases s p o h with e | ⟨_, ob, e⟩
    · exact .inl e
    · exact .inr ⟨ob, e⟩
  · exact .inr ⟨ob, s.here h (fun z => z)⟩
end

/-! ### a body's state -/
/-- the entry of a body: the ground, the cells, the heap, the places that were handed in to be changed -/
structure Ent where
  F : Hp
  al : List Addr
  H : Hp
  op : List Addr
def Ent.T (E : Ent) (a : Addr) : Prop := a ∈ E.al ∨ a ∈ E.op
section
variable (K : PySem.W.Frag)
/-- the places that slots own (all; those that are not handed in) -/
def Own (env : List Sl) (σ : L2.St) (a : Addr) : Prop := ∃ (i : Nat) (p : Bool) (o : Ob), env[i]? = some (Sl.ow p o) ∧ σ[i]? = some (some (V.ref a))
def Own0 (env : List Sl) (σ : L2.St) (a : Addr) : Prop := ∃ (i : Nat) (o : Ob), env[i]? = some (Sl.ow false o) ∧ σ[i]? = some (some (V.ref a))
def Tch (al : List Addr) (env : List Sl) (σ : L2.St) (a : Addr) : Prop := a ∈ al ∨ Own env σ a
def SlR (al : List Addr) (F H : Hp) : Sl → Option V → Prop
  | .un, _ => True
  | .im d, v => ∃ x, v = some x ∧ Dat K al F d x
  | .ow _ o, v => ∃ a ho, v = some (V.ref a) ∧ F a = none ∧ a ∉ al ∧ H a = some ho ∧ ObR K al F o ho
structure Rel (E : Ent) (F : Hp) (al : List Addr) (H : Hp) (σ : L2.St) (s : S) : Prop where
  sub : Sub F H
  clen : al.length = s.st.length
  cell : ∀ (i : Nat) (a : Addr) (o : Ob), al[i]? = some a → s.st[i]? = some o → F a = none ∧ ∃ ho, H a = some ho ∧ ObR K al F o ho
  nd : al.Nodup
  elen : s.env.length = σ.length
  env : ∀ (i : Nat) (sl : Sl) (v : Option V), s.env[i]? = some sl → σ[i]? = some v → SlR K al F H sl v
  own : ∀ (i j : Nat) (p q : Bool) (o u : Ob) (a : Addr), s.env[i]? = some (.ow p o) → s.env[j]? = some (.ow q u) → σ[i]? = some (some (V.ref a)) → σ[j]? = some (some (V.ref a)) → i = j
  ent : Ext E.T (fun _ => False) E.F E.al E.H F al H
  onew : ∀ (i : Nat) (p : Bool) (o : Ob) (a : Addr), s.env[i]? = some (.ow p o) → σ[i]? = some (some (V.ref a)) → if p = true then a ∈ E.op else E.H a = none
end
/-- a slot's step within an expression -/
def SlS : Sl → Sl → Prop
  | .un, x => x = .un
  | .im d, x => x = .im d
  | .ow p _, x => (∃ o, x = .ow p o) ∨ (p = false ∧ ∃ d, x = .im d)
structure Dec (e e' : List Sl) : Prop where
  len : e'.length = e.length
  st : ∀ (i : Nat) (sl sl' : Sl), e[i]? = some sl → e'[i]? = some sl' → SlS sl sl'
theorem SlS.refl (x : Sl) : SlS x x := by cases x <;> first | rfl | exact .inl ⟨_, rfl⟩
theorem SlS.trans {x y z : Sl} (a : SlS x y) (b : SlS y z) : SlS x z := by
  cases x with
  | un => cases (show y = _ from a); exact b
  | im d => cases (show y = _ from a); exact b
  | ow p o =>
    rcases a with ⟨u, rfl⟩ | ⟨hp, d, rfl⟩
    · exact b
    · cases (show z = _ from b); exact .inr ⟨hp, d, rfl⟩
theorem Dec.refl (e : List Sl) : Dec e e := ⟨rfl, fun i a b h1 h2 => by rw [h1] at h2; cases h2; exact SlS.refl _⟩
theorem Dec.trans {e e1 e2 : List Sl} (a : Dec e e1) (b : Dec e1 e2) : Dec e e2 := ⟨b.len.trans a.len, fun i x z h1 h2 => by
  have hi : i < e1.length := by
    have := (List.getElem?_eq_some_iff.mp h1).1
    rw [a.len]; exact this
  exact (a.st i x _ h1 (List.getElem?_eq_getElem hi)).trans (b.st i _ z (List.getElem?_eq_getElem hi) h2)⟩
theorem Dec.back {e e1 : List Sl} (a : Dec e e1) {i : Nat} {p : Bool} {o : Ob} (h : e1[i]? = some (.ow p o)) : ∃ o', e[i]? = some (.ow p o') := by
  have hi : i < e.length := by
    have := (List.getElem?_eq_some_iff.mp h).1
    rw [a.len] at this; exact this
  have q := a.st i _ _ (List.getElem?_eq_getElem hi) h
  cases x : e[i] with
  | un => rw [x] at q; cases (show Sl.ow p o = _ from q)
  | im d => rw [x] at q; cases (show Sl.ow p o = _ from q)
  | ow p' o' =>
    rw [x] at q
    rcases q with ⟨u, q⟩ | ⟨_, d, q⟩
    · cases q; exact ⟨o', by rw [List.getElem?_eq_getElem hi, x]⟩
    · cases q
theorem Dec.own {e e1 : List Sl} (a : Dec e e1) {σ : L2.St} {x : Addr} : Own e1 σ x → Own e σ x := fun ⟨i, p, o, h1, h2⟩ =>
  let ⟨o', h⟩ := a.back h1
  ⟨i, p, o', h, h2⟩
theorem Dec.own0 {e e1 : List Sl} (a : Dec e e1) {σ : L2.St} {x : Addr} : Own0 e1 σ x → Own0 e σ x := fun ⟨i, o, h1, h2⟩ =>
  let ⟨o', h⟩ := a.back h1
  ⟨i, o', h, h2⟩
/-- a step within an expression -/
structure Stp (σ : L2.St) (s s' : S) (F : Hp) (al : List Addr) (H : Hp) (F' : Hp) (al' : List Addr) (H' : Hp) : Prop where
  ext : Ext (Tch al s.env σ) (Own0 s.env σ) F al H F' al' H'
  dec : Dec s.env s'.env
section
variable {σ : L2.St} {s s1 s2 : S} {F F1 F2 H H1 H2 : Hp} {al al1 al2 : List Addr}
theorem Stp.refl : Stp σ s s F al H F al H := ⟨.refl, .refl _⟩
theorem Stp.tch (a : Stp σ s s1 F al H F1 al1 H1) {x : Addr} (h : Tch al1 s1.env σ x) : Tch al s.env σ x ∨ H x = none := by
  rcases h with h | h
  · obtain ⟨l, e, n⟩ := a.ext.al
    rw [e] at h
    rcases List.mem_append.mp h with h | h
    · exact .inl (.inl h)
    · exact .inr (n x h)
  · exact .inl (.inr (a.dec.own h))
theorem Stp.trans (a : Stp σ s s1 F al H F1 al1 H1) (b : Stp σ s1 s2 F1 al1 H1 F2 al2 H2) : Stp σ s s2 F al H F2 al2 H2 :=
  ⟨a.ext.trans b.ext (fun _ h => a.tch h) fun _ h => .inl (a.dec.own0 h), a.dec.trans b.dec⟩
theorem Stp.gr (a : Stp σ s s1 F al H F1 al1 H1) : Gr al F al1 F1 := a.ext.gr
end

/-! ### values -/
def VaR (K : PySem.W.Frag) (E : Ent) (Hs : Hp) (al : List Addr) (F H : Hp) (σ : L2.St) (s : S) (w : V) : Va → Prop
  | .im d => Dat K al F d w
  | .fr o => ∃ a ho, w = .ref a ∧ F a = none ∧ H a = some ho ∧ ObR K al F o ho ∧ ¬ Tch al s.env σ a ∧ E.H a = none ∧ Hs a = none
  | .pl i => σ[i]? = some (some w) ∧ ∃ sl, s.env[i]? = some sl ∧ sl ≠ .un
section
variable {K : PySem.W.Frag} {E : Ent} {σ : L2.St} {s s1 s2 : S} {F F1 F2 H H1 H2 : Hp} {al al1 al2 : List Addr} {w : V} {va : Va}
theorem VaR.mono {Hs : Hp} (r : VaR K E Hs al F H σ s w va) (a : Stp σ s s1 F al H F1 al1 H1) : VaR K E Hs al1 F1 H1 σ s1 w va := by
  cases va with
  | im d => exact Dat.mono a.gr r
  | fr o =>
    obtain ⟨x, ho, e, h1, h2, h3, h4, h5, h6⟩ := r
    refine ⟨x, ho, e, ?_, a.ext.keep _ _ h2 h4, h3.mono a.gr, fun h => ?_, h5, h6⟩
    · cases q : F1 x with
      | none => rfl
      | some u =>
        rcases a.ext.fn _ _ q with h | h | ⟨i, o', h7, h8⟩
        · rw [h1] at h; cases h
        · rw [h2] at h; cases h
        · exact absurd (Or.inr ⟨i, _, _, h7, h8⟩) h4
    · rcases a.tch h with h | h
      · exact h4 h
      · rw [h2] at h; cases h
  | pl i =>
    obtain ⟨h1, sl, h2, h3⟩ := r
    have hi : i < s1.env.length := by
      rw [a.dec.len]; exact (List.getElem?_eq_some_iff.mp h2).1
    refine ⟨h1, _, List.getElem?_eq_getElem hi, fun h4 => ?_⟩
    have q := a.dec.st i _ _ h2 (List.getElem?_eq_getElem hi)
    rw [h4] at q
    cases sl with
    | un => exact h3 rfl
    | im d => cases (show Sl.un = _ from q)
    | ow p o => rcases q with ⟨u, q⟩ | ⟨_, d, q⟩ <;> cases q
end

/-! ### exceptions -/
/-- the wish of a body: of what is raised at its slots -/
abbrev Wx := L2.WX
def XcR (K : PySem.W.Frag) (al : List Addr) (F H : Hp) (cls : Value) (d : Option Addr) (x : Xc) : Prop :=
  cls = .ref (He.ga K x.c) ∧ ((x.fs = [] ∧ d = none) ∨ ∃ dx vs, d = some dx ∧ H dx = some (.xd vs) ∧ F dx = none ∧ dx ∉ al ∧ DatF K al F x.fs vs)

/-! ### what a reading is worth -/
/-- t: a reading at a state, that wants Q of the value and the heap -/
def Sat {α β : Type} (K : PySem.W.Frag) (E : Ent) (W : Wx) (R : Hp → List Addr → Hp → Hp → S → β → α → Prop) (F : Hp) (al : List Addr) (H : Hp) (σ : L2.St) (s : S) (t : (β → Hp → Prop) → Prop) : Rs α → Prop
  | .ok a s' => ∀ Q : β → Hp → Prop, (∀ w F' al' H', Rel K E F' al' H' σ s' → Stp σ s s' F al H F' al' H' → R H al' F' H' s' w a → Q w H') → t Q
  | .ex x s' => ∀ Q : β → Hp → Prop, (∀ cls d F' al' H', Rel K E F' al' H' σ s' → Stp σ s s' F al H F' al' H' → XcR K al' F' H' cls d x → W cls d σ H') → t Q
  | .no => True
section
variable {α β α' β' : Type} {K : PySem.W.Frag} {E : Ent} {W : Wx} {R : Hp → List Addr → Hp → Hp → S → β → α → Prop} {R' : Hp → List Addr → Hp → Hp → S → β' → α' → Prop}
variable {σ : L2.St} {s s1 : S} {F F1 H H1 : Hp} {al al1 : List Addr}
theorem Sat.ret {t : (β → Hp → Prop) → Prop} {a : α} {w : β} (rel : Rel K E F al H σ s) (r : R H al F H s w a) (h : ∀ Q : β → Hp → Prop, Q w H → t Q) : Sat K E W R F al H σ s t (.ok a s) :=
  fun Q hQ => h Q (hQ w F al H rel .refl r)
/-- what holds from a later start holds from an earlier one -/
def Low {α β : Type} (R : Hp → List Addr → Hp → Hp → S → β → α → Prop) : Prop := ∀ (H H1 : Hp) (al : List Addr) (F' H' : Hp) (s' : S) (w : β) (a : α), (∀ x, H x ≠ none → H1 x ≠ none) → R H1 al F' H' s' w a → R H al F' H' s' w a
theorem Sat.bind (lo : Low R') {t : (β → Hp → Prop) → Prop} {u : β → Hp → (β' → Hp → Prop) → Prop} {m : M α} {f : α → M α'} (h : Sat K E W R F al H σ s t (m s))
    (k : ∀ a s1 w F1 al1 H1, m s = .ok a s1 → Rel K E F1 al1 H1 σ s1 → Stp σ s s1 F al H F1 al1 H1 → R H al1 F1 H1 s1 w a → Sat K E W R' F1 al1 H1 σ s1 (u w H1) (f a s1)) :
    Sat K E W R' F al H σ s (fun Q => t fun w H1 => u w H1 Q) ((m >>= f) s) := by
  rw [M.bind_run]
  cases hm : m s with
  | no => exact True.intro
  | ex x s1 =>
    rw [hm] at h
    exact fun Q hQ => h _ hQ
  | ok a s1 =>
    rw [hm] at h
    show Sat K E W R' F al H σ s _ (f a s1)
    cases hf : f a s1 with
    | no => exact True.intro
    | ex x s2 =>
      refine fun Q hQ => h _ fun w F1 al1 H1 rel stp r => ?_
      have q := k a s1 w F1 al1 H1 hm rel stp r
      rw [hf] at q
      exact q Q fun cls d F2 al2 H2 rel2 stp2 x2 => hQ cls d F2 al2 H2 rel2 (stp.trans stp2) x2
    | ok b s2 =>
      refine fun Q hQ => h _ fun w F1 al1 H1 rel stp r => ?_
      have q := k a s1 w F1 al1 H1 hm rel stp r
      rw [hf] at q
      exact q Q fun w2 F2 al2 H2 rel2 stp2 r2 => hQ w2 F2 al2 H2 rel2 (stp.trans stp2) (lo _ _ _ _ _ _ _ _ stp.ext.live r2)
theorem Sat.bind2 {t : (β → Hp → Prop) → Prop} {u : β → Hp → (β' → Hp → Prop) → Prop} {m : M α} {f : α → M α'} (h : Sat K E W R F al H σ s t (m s))
    (k : ∀ a s1 w F1 al1 H1, m s = .ok a s1 → Rel K E F1 al1 H1 σ s1 → Stp σ s s1 F al H F1 al1 H1 → R H al1 F1 H1 s1 w a → Sat K E W R' F al H σ s (u w H1) (f a s1)) :
    Sat K E W R' F al H σ s (fun Q => t fun w H1 => u w H1 Q) ((m >>= f) s) := by
  rw [M.bind_run]
  cases hm : m s with
  | no => exact True.intro
  | ex x s1 =>
    rw [hm] at h
    exact fun Q hQ => h _ hQ
  | ok a s1 =>
    rw [hm] at h
    show Sat K E W R' F al H σ s _ (f a s1)
    cases hf : f a s1 with
    | no => exact True.intro
    | ex x s2 =>
      refine fun Q hQ => h _ fun w F1 al1 H1 rel stp r => ?_
      have q := k a s1 w F1 al1 H1 hm rel stp r
      rw [hf] at q
      exact q Q hQ
    | ok b s2 =>
      refine fun Q hQ => h _ fun w F1 al1 H1 rel stp r => ?_
      have q := k a s1 w F1 al1 H1 hm rel stp r
      rw [hf] at q
      exact q Q hQ
theorem Sat.imp {t t' : (β → Hp → Prop) → Prop} {r : Rs α} (h : Sat K E W R F al H σ s t r) (ht : ∀ Q, t Q → t' Q) : Sat K E W R F al H σ s t' r := by
  cases r with
  | no => exact True.intro
  | ex x s1 => exact fun Q hQ => ht Q (h Q hQ)
  | ok a s1 => exact fun Q hQ => ht Q (h Q hQ)
/-- a later state's worth is the former one's -/
theorem Sat.after (lo : Low R) {t : (β → Hp → Prop) → Prop} {r : Rs α} (stp : Stp σ s s1 F al H F1 al1 H1) (h : Sat K E W R F1 al1 H1 σ s1 t r) : Sat K E W R F al H σ s t r := by
  cases r with
  | no => exact True.intro
  | ex x s2 => exact fun Q hQ => h Q fun cls d F2 al2 H2 rel2 stp2 x2 => hQ cls d F2 al2 H2 rel2 (stp.trans stp2) x2
  | ok a s2 => exact fun Q hQ => h Q fun w F2 al2 H2 rel2 stp2 r2 => hQ w F2 al2 H2 rel2 (stp.trans stp2) (lo _ _ _ _ _ _ _ _ stp.ext.live r2)
end
/-- the relation of expressions -/
abbrev VR (K : PySem.W.Frag) (E : Ent) (σ : L2.St) : Hp → List Addr → Hp → Hp → S → V → Va → Prop := fun Hs al F H s w va => VaR K E Hs al F H σ s w va
theorem VR.low {K : PySem.W.Frag} {E : Ent} {σ : L2.St} : Low (VR K E σ) := fun H H1 al F' H' s' w a hl r => by
  cases a with
  | im d => exact r
  | pl i => exact r
  | fr o =>
    obtain ⟨x, ho, e, h1, h2, h3, h4, h5, h6⟩ := r
    refine ⟨x, ho, e, h1, h2, h3, h4, h5, ?_⟩
    cases q : H x with
    | none => rfl
    | some u => exact absurd h6 (hl x (by rw [q]; exact Option.some_ne_none u))
def GoodE (K : PySem.W.Frag) (W : Wx) (te : TE) (ev : M Va) : Prop := ∀ (E : Ent) (F : Hp) (al : List Addr) (H : Hp) (σ : L2.St) (s : S), Rel K E F al H σ s → Sat K E W (VR K E σ) F al H σ s (te σ H) (ev s)
/-- an expression's worth: its reading, what it evaluates to -/
def SE (X : Cx) (K : PySem.W.Frag) (W : Wx) (e : Expr) (te : TE) (ev : M Va) : Prop := X.K = K ∧ PE X e te ∧ GoodE K W te ev
abbrev BR : Hp → List Addr → Hp → Hp → S → Bool → Bool → Prop := fun _ _ _ _ _ w b => w = b
theorem BR.low : Low BR := fun _ _ _ _ _ _ _ _ _ r => r
/-- a datum -/
abbrev DR (K : PySem.W.Frag) : Hp → List Addr → Hp → Hp → S → V → D → Prop := fun _ al F _ _ w d => Dat K al F d w
theorem DR.low {K : PySem.W.Frag} : Low (DR K) := fun _ _ _ _ _ _ _ _ _ r => r
def GoodT (K : PySem.W.Frag) (W : Wx) (tt : TT) (ev : M Bool) : Prop := ∀ (E : Ent) (F : Hp) (al : List Addr) (H : Hp) (σ : L2.St) (s : S), Rel K E F al H σ s → Sat K E W BR F al H σ s (tt σ H) (ev s)
def ST (X : Cx) (K : PySem.W.Frag) (W : Wx) (e : Expr) (tt : TT) (ev : M Bool) : Prop := X.K = K ∧ PT X e tt ∧ GoodT K W tt ev
def SW (X : Cx) (K : PySem.W.Frag) (W : Wx) (e : Expr) (tt : TT) (ev : M Bool) : Prop := X.K = K ∧ PW X e tt ∧ GoodT K W tt ev
/-- arguments: data, one behind another (containers of slots are handed on) -/
abbrev LR (K : PySem.W.Frag) : Hp → List Addr → Hp → Hp → S → List V → List D → Prop := fun _ al F _ _ ws ds => DatL K al F ds ws
theorem LR.low {K : PySem.W.Frag} : Low (LR K) := fun _ _ _ _ _ _ _ _ _ r => r
def GoodA (K : PySem.W.Frag) (W : Wx) (ta : TA) (ev : M (List D)) : Prop := ∀ (E : Ent) (F : Hp) (al : List Addr) (H : Hp) (σ : L2.St) (s : S), Rel K E F al H σ s → Sat K E W (LR K) F al H σ s (ta σ H) (ev s)
def SA (X : Cx) (K : PySem.W.Frag) (W : Wx) (es : List Expr) (ta : TA) (ev : M (List D)) : Prop := X.K = K ∧ PA X es ta ∧ GoodA K W ta ev
end VI
end
section
set_option Elab.async false
set_option linter.all false
set_option maxRecDepth 100000
set_option maxHeartbeats 2000000
/-! V3: new objects, handing on, reading; names, constants, operators by values. -/
namespace VI
open PySem PySem.Spec L2

section
variable {K : PySem.W.Frag} {E : Ent} {σ : L2.St} {s s1 : S} {F F1 H H1 : Hp} {al al1 : List Addr} {w : V} {va : Va}
theorem Rel.cellH (r : Rel K E F al H σ s) {a : Addr} (h : a ∈ al) : F a = none ∧ H a ≠ none := by
  obtain ⟨i, hi, e⟩ := List.getElem_of_mem h
  have hj : i < s.st.length := by rw [← r.clen]; exact hi
  obtain ⟨h1, ho, h2, _⟩ := r.cell i a _ (by rw [List.getElem?_eq_getElem hi, e]) (List.getElem?_eq_getElem hj)
  exact ⟨h1, by rw [h2]; exact Option.some_ne_none _⟩
theorem Rel.ownH (r : Rel K E F al H σ s) {a : Addr} (h : Own s.env σ a) : F a = none ∧ a ∉ al ∧ H a ≠ none := by
  obtain ⟨i, p, o, h1, h2⟩ := h
  obtain ⟨b, ho, e, h3, h4, h5, _⟩ := r.env i _ _ h1 h2
  cases e
  exact ⟨h3, h4, by rw [h5]; exact Option.some_ne_none _⟩
theorem Rel.fresh (r : Rel K E F al H σ s) {p : Addr} (h : H p = none) : F p = none ∧ ¬ Tch al s.env σ p ∧ E.H p = none := by
  refine ⟨r.sub.free h, fun t => ?_, ?_⟩
  · rcases t with t | t
    · exact (r.cellH t).2 h
    · exact (r.ownH t).2.2 h
  · cases q : E.H p with
    | none => rfl
    | some o => exact absurd h (r.ent.live p (by rw [q]; exact Option.some_ne_none _))
theorem SlR.put {sl : Sl} {v : Option V} {p : Addr} {o : HO} (h : SlR K al F H sl v) (hp : H p = none) : SlR K al F (upd H p o) sl v := by
  cases sl with
  | un => exact True.intro
  | im d => exact h
  | ow b u =>
    obtain ⟨a, ho, e, h1, h2, h3, h4⟩ := h
    exact ⟨a, ho, e, h1, h2, by rw [upd_ne (ne_of_none h3 hp)]; exact h3, h4⟩
theorem Rel.new0 (r : Rel K E F al H σ s) {p : Addr} {o : HO} (h : H p = none) : Rel K E F al (upd H p o) σ s := by
  have f := r.sub.free h
  refine ⟨r.sub.put f, r.clen, fun i a u h1 h2 => ?_, r.nd, r.elen, fun i sl v h1 h2 => (r.env i sl v h1 h2).put h, r.own, r.ent.trans (Ext.new0 (T := E.T) (Z := fun _ => False) h) (fun _ z => .inl z) (fun _ z => .inl z), r.onew⟩
  obtain ⟨g, ho, e, q⟩ := r.cell i a u h1 h2
  exact ⟨g, ho, by rw [upd_ne (ne_of_none e h)]; exact e, q⟩
theorem Stp.new0 {p : Addr} {o : HO} (h : H p = none) : Stp σ s s F al H F al (upd H p o) := ⟨.new0 h, .refl _⟩
theorem Gr.new {p : Addr} {o : HO} (h : F p = none) : Gr al F al (upd F p o) := ⟨fun a u q => by rw [upd_ne (ne_of_none q h)]; exact q, [], by simp⟩
theorem SlR.gr {sl : Sl} {v : Option V} {p : Addr} {o : HO} (h : SlR K al F H sl v) (hp : H p = none) (hf : F p = none) : SlR K al (upd F p o) (upd H p o) sl v := by
  cases sl with
  | un => exact True.intro
  | im d =>
    obtain ⟨x, e, q⟩ := h
    exact ⟨x, e, q.mono (.new hf)⟩
  | ow b u =>
    obtain ⟨a, ho, e, h1, h2, h3, h4⟩ := h
    have ne := ne_of_none h3 hp
    exact ⟨a, ho, e, by rw [upd_ne ne]; exact h1, h2, by rw [upd_ne ne]; exact h3, h4.mono (.new hf)⟩
theorem Rel.new (r : Rel K E F al H σ s) {p : Addr} {o : HO} (h : H p = none) : Rel K E (upd F p o) al (upd H p o) σ s := by
  have f := r.sub.free h
  refine ⟨r.sub.new f, r.clen, fun i a u h1 h2 => ?_, r.nd, r.elen, fun i sl v h1 h2 => (r.env i sl v h1 h2).gr h f, r.own, r.ent.trans (Ext.new (T := E.T) (Z := fun _ => False) h f) (fun _ z => .inl z) (fun _ z => .inl z), r.onew⟩
  obtain ⟨g, ho, e, q⟩ := r.cell i a u h1 h2
  have ne := ne_of_none e h
  exact ⟨by rw [upd_ne ne]; exact g, ho, by rw [upd_ne ne]; exact e, q.mono (.new f)⟩
theorem Stp.new {p : Addr} {o : HO} (h : H p = none) (hf : F p = none) : Stp σ s s F al H (upd F p o) al (upd H p o) := ⟨.new h hf, .refl _⟩
/-- a new container -/
theorem VaR.new (r : Rel K E F al H σ s) {p : Addr} {o : Ob} {ho : HO} (h : H p = none) (q : ObR K al F o ho) : VaR K E H al F (upd H p ho) σ s (.ref p) (.fr o) := by
  obtain ⟨h1, h2, h3⟩ := r.fresh h
  exact ⟨p, ho, rfl, h1, upd_same, q, h2, h3, h⟩

/-! ### reading -/
/-- p is to be read at w -/
def Rdr (K : PySem.W.Frag) (al : List Addr) (F H : Hp) (p : D) (w : V) : Prop :=
  (Dat K al F p w ∧ ∀ j, p ≠ .ref j) ∨ ∃ a ho o, w = .ref a ∧ H a = some ho ∧ ObR K al F o ho ∧ p = o.d
theorem rd_ok (r : Rel K E F al H σ s) {Hs : Hp} (v : VaR K E Hs al F H σ s w va) {p : D} (h : rd va s = some p) : Rdr K al F H p w := by
  cases va with
  | im d =>
    cases d with
    | ref j =>
      have e : s.st[j]?.map Ob.d = some p := h
      cases q : s.st[j]? with
      | none => rw [q] at e; cases e
      | some o =>
        rw [q] at e
        cases (show Dat K al F (.ref j) w from v) with
        | ref g =>
          obtain ⟨_, ho, h2, h3⟩ := r.cell j _ o g q
          exact .inr ⟨_, ho, o, rfl, h2, h3, (Option.some.inj e).symm⟩
    | _ => cases h; exact .inl ⟨v, fun j e => by cases e⟩
  | fr o =>
    cases h
    obtain ⟨a, ho, e, _, h2, h3, _⟩ := v
    exact .inr ⟨a, ho, o, e, h2, h3, rfl⟩
  | pl i =>
    obtain ⟨h1, sl, h2, h3⟩ := v
    have h : (match s.env[i]? with
      | some (.ow _ o) => some o.d
      | some (.im (.ref _)) => none
      | some (.im d) => some d
      | _ => none) = some p := h
    rw [h2] at h
    cases sl with
    | un => exact absurd rfl h3
    | im d =>
      obtain ⟨x, e, q⟩ := r.env i _ _ h2 h1
      cases e
      cases d with
      | ref j => cases h
      | _ => cases h; exact .inl ⟨q, fun j e => by cases e⟩
    | ow b o =>
      cases h
      obtain ⟨a, ho, e, _, _, h5, h6⟩ := r.env i _ _ h2 h1
      cases e
      exact .inr ⟨a, ho, o, rfl, h5, h6, rfl⟩
theorem Rdr.mono {F1 H1 : Hp} (h : Rdr K al F H p w) (g : Gr al F al1 F1) (k : ∀ a o, w = .ref a → H a = some o → H1 a = some o) : Rdr K al1 F1 H1 p w := by
  rcases h with ⟨d, n⟩ | ⟨a, ho, o, e, h1, h2, h3⟩
  · exact .inl ⟨d.mono g, n⟩
  · exact .inr ⟨a, ho, o, e, k a _ e h1, h2.mono g, h3⟩
theorem Rdr.non (h : Rdr K al F H .non w) : w = .non := by
  rcases h with ⟨d, _⟩ | ⟨a, ho, o, e, h1, h2, h3⟩
  · cases d; rfl
  · cases o <;> cases h3
theorem Rdr.int {i : Int} (h : Rdr K al F H (.int i) w) : w = .int i := by
  rcases h with ⟨d, _⟩ | ⟨a, ho, o, e, h1, h2, h3⟩
  · cases d; rfl
  · cases o <;> cases h3
theorem Rdr.bl {b : Bool} (h : Rdr K al F H (.bl b) w) : w = .bl b := by
  rcases h with ⟨d, _⟩ | ⟨a, ho, o, e, h1, h2, h3⟩
  · cases d; rfl
  · cases o <;> cases h3
theorem Rdr.str {x : Str} (h : Rdr K al F H (.str x) w) : w = .str x := by
  rcases h with ⟨d, _⟩ | ⟨a, ho, o, e, h1, h2, h3⟩
  · cases d; rfl
  · cases o <;> cases h3
theorem Rdr.lst {ds : List D} (r : Sub F H) (h : Rdr K al F H (.lst ds) w) : ∃ a vs, w = .ref a ∧ H a = some (.lst vs) ∧ DatL K al F ds vs ∧ ds.length ≤ sizeLine := by
  rcases h with ⟨d, _⟩ | ⟨a, ho, o, e, h1, h2, h3⟩
  · cases d with
    | lst q l z => exact ⟨_, _, rfl, r.here q (fun z => z), l, z⟩
  · cases o <;> cases h3
    cases ho <;> first | exact h2.elim | skip
    exact ⟨a, _, e, h1, h2.1, h2.2⟩
theorem Rdr.lz {ds : List D} (r : Sub F H) (h : Rdr K al F H (.lz ds) w) : ∃ a vs, w = .ref a ∧ SqL K H a vs ∧ DatL K al F ds vs ∧ ds.length ≤ sizeLine := by
  rcases h with ⟨d, _⟩ | ⟨a, ho, o, e, h1, h2, h3⟩
  · cases d with
    | lz q l z => exact ⟨_, _, rfl, r.seqL q, l, z⟩
  · cases o <;> cases h3
theorem Rdr.tup {ds : List D} (r : Sub F H) (h : Rdr K al F H (.tup ds) w) : ∃ a vs, w = .ref a ∧ H a = some (.tup vs) ∧ DatL K al F ds vs ∧ ds.length ≤ sizeLine := by
  rcases h with ⟨d, _⟩ | ⟨a, ho, o, e, h1, h2, h3⟩
  · cases d with
    | tup q l z => exact ⟨_, _, rfl, r.here q (fun z => z), l, z⟩
  · cases o <;> cases h3
theorem Rdr.tz {ds : List D} (r : Sub F H) (h : Rdr K al F H (.tz ds) w) : ∃ a vs, w = .ref a ∧ SqT K H a vs ∧ DatL K al F ds vs ∧ ds.length ≤ sizeLine := by
  rcases h with ⟨d, _⟩ | ⟨a, ho, o, e, h1, h2, h3⟩
  · cases d with
    | tz q l z => exact ⟨_, _, rfl, r.seqT q, l, z⟩
  · cases o <;> cases h3
theorem Rdr.tupD {ds : List D} (h : Rdr K al F H (.tup ds) w) : Dat K al F (.tup ds) w := by
  rcases h with ⟨d, _⟩ | ⟨a, ho, o, e, h1, h2, h3⟩
  · exact d
  · cases o <;> cases h3
theorem Rdr.dk {ds : List (Key × D)} (r : Sub F H) (h : Rdr K al F H (.dk ds) w) : ∃ a vs, w = .ref a ∧ Rd H a (.dK vs) ∧ DatK K al F ds vs := by
  rcases h with ⟨d, _⟩ | ⟨a, ho, o, e, h1, h2, h3⟩
  · cases d with
    | dk q l => exact ⟨_, _, rfl, r.rd q, l⟩
  · cases o <;> cases h3
    cases ho <;> first | exact h2.elim | skip
    exact ⟨a, _, e, .inl h1, h2⟩
theorem Rdr.dt {ds : List (List Key × D)} (r : Sub F H) (h : Rdr K al F H (.dt ds) w) : ∃ a vs, w = .ref a ∧ Rd H a (.dT vs) ∧ DatT K al F ds vs := by
  rcases h with ⟨d, _⟩ | ⟨a, ho, o, e, h1, h2, h3⟩
  · cases d with
    | dt q l => exact ⟨_, _, rfl, r.rd q, l⟩
  · cases o <;> cases h3
    cases ho <;> first | exact h2.elim | skip
    exact ⟨a, _, e, .inl h1, h2⟩
theorem Rdr.ins {c : Str} {ds : List (Str × D)} (r : Sub F H) (h : Rdr K al F H (.ins c ds) w) : ∃ a dx vs, w = .ref a ∧ H a = some (.ins (He.ga K c) dx vs) ∧ DatF K al F ds vs := by
  rcases h with ⟨d, _⟩ | ⟨a, ho, o, e, h1, h2, h3⟩
  · cases d with
    | ins q l => exact ⟨_, _, _, rfl, r.here q (fun z => z), l⟩
  · cases o <;> cases h3
    cases ho <;> first | exact h2.elim | skip
    obtain ⟨rfl, q⟩ := h2
    exact ⟨a, _, _, e, h1, q⟩

/-! ### handing on -/
theorem Rel.freeze (r : Rel K E F al H σ s) {i : Nat} {o : Ob} {a : Addr} {ho : HO} (h1 : s.env[i]? = some (.ow false o)) (h2 : σ[i]? = some (some (.ref a))) (h5 : H a = some ho) (h6 : ObR K al F o ho) :
    Rel K E (upd F a ho) al H σ { s with env := s.env.set i (.im o.d) } ∧ Stp σ s { s with env := s.env.set i (.im o.d) } F al H (upd F a ho) al H ∧ Dat K al (upd F a ho) o.d (.ref a) := by
  obtain ⟨hF, hal, hH⟩ := r.ownH (a := a) ⟨i, _, _, h1, h2⟩
  have hi : i < s.env.length := (List.getElem?_eq_some_iff.mp h1).1
  have gr : Gr al F al (upd F a ho) := .new hF
  have hd : Dat K al (upd F a ho) o.d (.ref a) := (h6.mono gr).dat upd_same
  have ex : ∀ {T Z : Addr → Prop}, (Z a ∨ H a = none) → Ext T Z F al H (upd F a ho) al H := fun {T Z} hz => by
    refine ⟨gr.f, fun b u q => ?_, ⟨[], by simp, fun _ h => by simp at h⟩, fun _ _ q _ => q, fun _ q => q⟩
    by_cases e : b = a
    · subst e
      rcases hz with z | z
      · exact .inr (.inr z)
      · exact .inr (.inl z)
    · rw [upd_ne e] at q; exact .inl q
  refine ⟨⟨?_, r.clen, fun j b u g1 g2 => ?_, r.nd, ?_, fun j sl v g1 g2 => ?_, fun j k p q u z b g1 g2 g3 g4 => ?_, ?_, fun j p u b g1 g2 => ?_⟩, ⟨ex (.inl ⟨i, o, h1, h2⟩), ?_, fun j sl sl' g1 g2 => ?_⟩, hd⟩
  · intro b u q
    by_cases e : b = a
    · subst e; rw [upd_same] at q; cases q; exact .inl h5
    · rw [upd_ne e] at q; exact r.sub b u q
  · obtain ⟨g, hz, e, q⟩ := r.cell j b u g1 g2
    have ne : b ≠ a := fun z => hal (z ▸ List.mem_of_getElem? g1)
    exact ⟨by rw [upd_ne ne]; exact g, hz, e, q.mono gr⟩
  · rw [List.length_set]; exact r.elen
  · by_cases e : i = j
    · subst e
      rw [List.getElem?_set_self hi] at g1
      cases g1
      rw [h2] at g2
      cases g2
      exact ⟨_, rfl, hd⟩
    · rw [List.getElem?_set_ne e] at g1
      have q := r.env j sl v g1 g2
      cases sl with
      | un => exact True.intro
      | im d =>
        obtain ⟨x, ex, q⟩ := q
        exact ⟨x, ex, q.mono gr⟩
      | ow b u =>
        obtain ⟨c, hc, ec, q1, q2, q3, q4⟩ := q
        subst ec
        have ne : c ≠ a := fun z => e (r.own i j _ _ _ _ a h1 g1 h2 (z ▸ g2))
        exact ⟨c, hc, rfl, by rw [upd_ne ne]; exact q1, q2, q3, q4.mono gr⟩
  · have g1' : j ≠ i := fun z => by subst z; rw [List.getElem?_set_self hi] at g1; cases g1
    have g2' : k ≠ i := fun z => by subst z; rw [List.getElem?_set_self hi] at g2; cases g2
    rw [List.getElem?_set_ne g1'.symm] at g1
    rw [List.getElem?_set_ne g2'.symm] at g2
    exact r.own j k p q u z b g1 g2 g3 g4
  · refine r.ent.trans (ex (T := E.T) (Z := fun x => x = a) (.inl rfl)) (fun _ z => .inl z) fun x hx => ?_
    subst hx
    exact .inr (by simpa using r.onew i false o x h1 h2)
  · have g1' : j ≠ i := fun z => by subst z; rw [List.getElem?_set_self hi] at g1; cases g1
    rw [List.getElem?_set_ne g1'.symm] at g1
    exact r.onew j p u b g1 g2
  · rw [List.length_set]
  · by_cases e : i = j
    · subst e
      rw [List.getElem?_set_self hi] at g2
      rw [h1] at g1
      cases g1; cases g2
      exact .inr ⟨rfl, _, rfl⟩
    · rw [List.getElem?_set_ne e] at g2
      rw [g1] at g2
      cases g2
      exact SlS.refl _
/-- a value, handed on at once -/
theorem Sat.esc {W : Wx} {t : (V → Hp → Prop) → Prop} {m : M Va} (h : Sat K E W (VR K E σ) F al H σ s t (m s)) : Sat K E W (DR K) F al H σ s t ((m >>= esc) s) := by
  rw [M.bind_run]
  cases hm : m s with
  | no => exact True.intro
  | ex x s1 => rw [hm] at h; exact h
  | ok va s1 =>
    rw [hm] at h
    cases va with
    | im d => exact fun Q hQ => h Q fun w F1 al1 H1 rel stp r => hQ w F1 al1 H1 rel stp r
    | fr o =>
      refine fun Q hQ => h Q fun w F1 al1 H1 rel stp r => ?_
      obtain ⟨a, ho, e, h1, h2, h3, h4, h5, h6⟩ := r
      subst e
      have gr : Gr al1 F1 al1 (upd F1 a ho) := .new h1
      have ex : ∀ {T Z : Addr → Prop}, Ext T (fun x => x = a ∨ Z x) F1 al1 H1 (upd F1 a ho) al1 H1 := fun {T Z} => by
        refine ⟨gr.f, fun b u q => ?_, ⟨[], by simp, fun _ h => by simp at h⟩, fun _ _ q _ => q, fun _ q => q⟩
        by_cases e : b = a
        · exact .inr (.inr (.inl e))
        · rw [upd_ne e] at q; exact .inl q
      refine hQ _ (upd F1 a ho) al1 H1 ⟨?_, rel.clen, fun j b u g1 g2 => ?_, rel.nd, rel.elen, fun j sl v g1 g2 => ?_, rel.own, ?_, rel.onew⟩ ⟨stp.ext.trans (T2 := Tch al s.env σ) (Z2 := fun x => x = a ∨ Own0 s.env σ x) ex (fun _ z => .inl z) (fun x z => ?_), stp.dec⟩ ((h3.mono gr).dat upd_same)
      · intro b u q
        by_cases e : b = a
        · subst e; rw [upd_same] at q; cases q; exact .inl h2
        · rw [upd_ne e] at q; exact rel.sub b u q
      · obtain ⟨g, hz, e, q⟩ := rel.cell j b u g1 g2
        have ne : b ≠ a := fun z => h4 (.inl (z ▸ List.mem_of_getElem? g1))
        exact ⟨by rw [upd_ne ne]; exact g, hz, e, q.mono gr⟩
      · have q := rel.env j sl v g1 g2
        cases sl with
        | un => exact True.intro
        | im d =>
          obtain ⟨x, ex, q⟩ := q
          exact ⟨x, ex, q.mono gr⟩
        | ow b u =>
          obtain ⟨c, hc, ec, q1, q2, q3, q4⟩ := q
          subst ec
          have ne : c ≠ a := fun z => h4 (.inr ⟨j, _, _, g1, z ▸ g2⟩)
          exact ⟨c, hc, rfl, by rw [upd_ne ne]; exact q1, q2, q3, q4.mono gr⟩
      · refine rel.ent.trans (T2 := E.T) (Z2 := fun x => x = a ∨ False) ex (fun _ z => .inl z) fun x hx => ?_
        rcases hx with hx | hx
        · subst hx; exact .inr h5
        · exact hx.elim
      · rcases z with z | z
        · subst z; exact .inr h6
        · exact .inl z
    | pl i =>
      show Sat K E W (DR K) F al H σ s t (match s1.env[i]? with
        | some (.ow false o) => .ok o.d { s1 with env := s1.env.set i (.im o.d) }
        | some (.im d) => .ok d s1
        | _ => .no)
      cases he : s1.env[i]? with
      | none => exact True.intro
      | some sl =>
        cases sl with
        | un => exact True.intro
        | im d =>
          refine fun Q hQ => h Q fun w F1 al1 H1 rel stp r => ?_
          obtain ⟨x, e, q⟩ := rel.env i _ _ he r.1
          cases e
          exact hQ w F1 al1 H1 rel stp q
        | ow p o =>
          cases p with
          | true => exact True.intro
          | false =>
            refine fun Q hQ => h Q fun w F1 al1 H1 rel stp r => ?_
            obtain ⟨a, ho, e, _, _, h5, h6⟩ := rel.env i _ _ he r.1
            cases e
            obtain ⟨r1, r2, r3⟩ := rel.freeze he r.1 h5 h6
            exact hQ _ _ al1 H1 r1 (stp.trans r2) r3
end
end VI
end
section
set_option Elab.async false
set_option linter.all false
set_option maxRecDepth 100000
set_option maxHeartbeats 2000000
/-! V4: names, constants, operators and comparisons by values, subscripts, tests. -/
namespace VI
open PySem PySem.Spec L2

/-! ### names, constants -/
def evVar (i : Nat) : M Va := fun s => match s.env[i]? with
  | some (.im d) => .ok (.im d) s
  | some (.ow _ _) => .ok (.pl i) s
  | _ => .no
def evC (d : D) : M Va := fun s => .ok (.im d) s
section
variable {X : Cx} {W : Wx} {K : PySem.W.Frag}
theorem good_var (i : Nat) : GoodE K W (tVar i) (evVar i) := fun E F al H σ s rel => by
  unfold evVar
  cases h : s.env[i]? with
  | none => exact True.intro
  | some sl =>
    cases sl with
    | un => exact True.intro
    | im d =>
      have hi : i < σ.length := by rw [← rel.elen]; exact (List.getElem?_eq_some_iff.mp h).1
      obtain ⟨v, e, q⟩ := rel.env i _ _ h (List.getElem?_eq_getElem hi)
      exact fun Q hQ => ⟨v, by rw [List.getElem?_eq_getElem hi, e], hQ v F al H rel .refl q⟩
    | ow p o =>
      have hi : i < σ.length := by rw [← rel.elen]; exact (List.getElem?_eq_some_iff.mp h).1
      obtain ⟨a, ho, e, _⟩ := rel.env i _ _ h (List.getElem?_eq_getElem hi)
      have e2 : σ[i]? = some (some (V.ref a)) := by rw [List.getElem?_eq_getElem hi, e]
      exact fun Q hQ => ⟨.ref a, e2, hQ _ F al H rel .refl ⟨e2, _, h, fun z => by cases z⟩⟩
theorem good_c {d : D} {v : V} (h : ∀ al F, Dat K al F d v) : GoodE K W (tC v) (evC d) := fun E F al H σ s rel =>
  Sat.ret rel (h al F) fun Q q => q
theorem se_var (i : Nat) {x : Str} {pos : Pos} (hK : X.K = K := by rfl) (hN : X.N[i]? = some x := by rfl) (hv : Vis X.env.scope x := by first | exact Or.inl rfl | exact Or.inr (Or.inl rfl) | exact Or.inr (Or.inr rfl)) (hd : (x == ("__debug__" : Str)) = false := by decide)
    (hcd : (x == ("__classdict__" : Str)) = false := by decide) : SE X K W (.Name x pos) (tVar i) (evVar i) := ⟨hK, pe_var hN hv hd hcd, good_var i⟩
theorem se_int {i j pos} (hK : X.K = K := by rfl) : SE X K W (.Constant (.int i) j pos) (tC (.int i)) (evC (.int i)) := ⟨hK, pe_int, good_c fun _ _ => .int i⟩
theorem se_bl {b j pos} (hK : X.K = K := by rfl) : SE X K W (.Constant (.bool b) j pos) (tC (.bl b)) (evC (.bl b)) := ⟨hK, pe_bl, good_c fun _ _ => .bl b⟩
theorem se_non {j pos} (hK : X.K = K := by rfl) : SE X K W (.Constant .none j pos) (tC .non) (evC .non) := ⟨hK, pe_non, good_c fun _ _ => .non⟩
theorem se_str {x j pos} (hK : X.K = K := by rfl) : SE X K W (.Constant (.str x) j pos) (tC (.str x)) (evC (.str x)) := ⟨hK, pe_str, good_c fun _ _ => .str x⟩

/-! ### operators -/
def evOp (f : D → D → Option Va) (a b : M Va) : M Va := a >>= fun x => b >>= fun y => fun s => match rd x s, rd y s with
  | some p, some q => (match f p q with
    | some v => .ok v s
    | none => .no)
  | _, _ => .no
/-- r carries f out -/
def OpS (K : PySem.W.Frag) (r : R2) (f : D → D → Option Va) : Prop := ∀ (E : Ent) (F : Hp) (al : List Addr) (H : Hp) (σ : L2.St) (s : S) (x y : V) (p q : D) (va : Va), Rel K E F al H σ s → Rdr K al F H p x → Rdr K al F H q y → f p q = some va →
  ∀ Q : VK, (∀ w F' al' H', Rel K E F' al' H' σ s → Stp σ s s F al H F' al' H' → VaR K E H al' F' H' σ s w va → Q w H') → r x y H Q
theorem VaR.rdrAt {E : Ent} {Hs : Hp} {F F1 H H1 : Hp} {al al1 : List Addr} {σ : L2.St} {s s1 : S} {w : V} {va : Va} {p : D} (r1 : Rel K E F1 al1 H1 σ s1) (v : VaR K E Hs al F H σ s w va) (st : Stp σ s s1 F al H F1 al1 H1) (h : rd va s1 = some p) : Rdr K al1 F1 H1 p w :=
  rd_ok r1 (v.mono st) h
theorem good_op {r : R2} {f : D → D → Option Va} {ta tb : TE} {a b : M Va} (ga : GoodE K W ta a) (gb : GoodE K W tb b) (hs : OpS K r f) : GoodE K W (tOp r ta tb) (evOp f a b) := fun E F al H σ s rel => by
  refine Sat.bind (u := fun x H1 Q => tb σ H1 fun y H2 => r x y H2 Q) VR.low (ga E F al H σ s rel) fun x s1 w1 F1 al1 H1 _ rel1 st1 v1 => ?_
  refine Sat.bind (u := fun y H2 Q => r w1 y H2 Q) VR.low (gb E F1 al1 H1 σ s1 rel1) fun y s2 w2 F2 al2 H2 _ rel2 st2 v2 => ?_
  show Sat K E W (VR K E σ) F2 al2 H2 σ s2 (fun Q => r w1 w2 H2 Q) (match rd x s2, rd y s2 with
    | some p, some q => (match f p q with
      | some v => .ok v s2
      | none => .no)
    | _, _ => .no)
  cases hx : rd x s2 with
  | none => exact True.intro
  | some p =>
    cases hy : rd y s2 with
    | none => exact True.intro
    | some q =>
      show Sat K E W (VR K E σ) F2 al2 H2 σ s2 (fun Q => r w1 w2 H2 Q) (match f p q with
        | some v => .ok v s2
        | none => .no)
      cases hf : f p q with
      | none => exact True.intro
      | some va => exact fun Q hQ => hs E F2 al2 H2 σ s2 w1 w2 p q va rel2 (VaR.rdrAt rel2 v1 st2 hx) (rd_ok rel2 v2 hy) hf Q hQ
theorem se_bin {op : Operator} {r : R2} {f : D → D → Option Va} {a b : Expr} {ea eb : M Va} {pos : Pos} (ho : OpR X (binaryOp op) r) (hs : OpS K r f) (ha : SE X K W a tha ea) (hb : SE X K W b thb eb) : SE X K W (.BinOp a op b pos) (tOp r tha thb) (evOp f ea eb) := by
  obtain ⟨rfl, pa, ga⟩ := ha
  obtain ⟨_, pb, gb⟩ := hb
  exact ⟨rfl, pe_op ho pa pb, good_op ga gb hs⟩
theorem se_cmp {op : CmpOp} {r : R2} {f : D → D → Option Va} {a b : Expr} {ea eb : M Va} {pos : Pos} (ho : OpR X (compareOp op) r) (hs : OpS K r f) (ha : SE X K W a tha ea) (hb : SE X K W b thb eb) (hm : behindInMarks op b = false) : SE X K W (.Compare a [op] [b] pos) (tOp r tha thb) (evOp f ea eb) := by
  obtain ⟨rfl, pa, ga⟩ := ha
  obtain ⟨_, pb, gb⟩ := hb
  exact ⟨rfl, pe_cmpR ho pa pb hm, good_op ga gb hs⟩
/-- a value that must be a bool -/
def evB (m : M Va) : M Bool := m >>= fun v => match v with
  | .im (.bl b) => pure b
  | _ => fun _ => .no
theorem good_tt {te : TE} {m : M Va} (g : GoodE K W te m) : GoodT K W (tTest te) (evB m) := fun E F al H σ s rel => by
  refine Sat.bind (u := fun x H' Q => ∃ k, x = .bl k ∧ Q k H') BR.low (g E F al H σ s rel) fun x s1 w1 F1 al1 H1 _ rel1 st1 v1 => ?_
  cases x with
  | im d =>
    cases d with
    | bl b =>
      cases (show Dat K al1 F1 (.bl b) w1 from v1)
      exact fun Q hQ => ⟨b, rfl, hQ b F1 al1 H1 rel1 .refl rfl⟩
    | _ => exact True.intro
  | _ => exact True.intro
theorem st_cmp {op : CmpOp} {r : R2} {f : D → D → Option Va} {a b : Expr} {ea eb : M Va} {pos : Pos} (ho : OpR X (compareOp op) r) (hs : OpS K r f) (ha : SE X K W a tha ea) (hb : SE X K W b thb eb) (hm : behindInMarks op b = false) : ST X K W (.Compare a [op] [b] pos) (tTest (tOp r tha thb)) (evB (evOp f ea eb)) := by
  obtain ⟨rfl, pa, ga⟩ := ha
  obtain ⟨_, pb, gb⟩ := hb
  exact ⟨rfl, pt_cmpR ho pa pb hm, good_tt (good_op ga gb hs)⟩

/-! ### what a value rule hands back -/
section
variable {E : Ent} {F H : Hp} {al : List Addr} {σ : L2.St} {s : S} {va : Va} {Q : VK}
/-- a datum that needs no object -/
theorem fin_d (rel : Rel K E F al H σ s) {d : D} {w : V} (hw : Dat K al F d w) (hQ : ∀ w F' al' H', Rel K E F' al' H' σ s → Stp σ s s F al H F' al' H' → VaR K E H al' F' H' σ s w (.im d) → Q w H') : Q w H := hQ w F al H rel .refl hw
/-- a new list -/
theorem fin_l (rel : Rel K E F al H σ s) {ds : List D} {vs : List V} (h : DatL K al F ds vs) (z : ds.length ≤ sizeLine) (hQ : ∀ w F' al' H', Rel K E F' al' H' σ s → Stp σ s s F al H F' al' H' → VaR K E H al' F' H' σ s w (.fr (.lst ds)) → Q w H') (p : Addr) (hp : H p = none) : Q (.ref p) (upd H p (.lst vs)) :=
  hQ _ F al _ (rel.new0 hp) (.new0 hp) (.new rel hp ⟨h, z⟩)
/-- a new tuple -/
theorem fin_t (rel : Rel K E F al H σ s) {ds : List D} {vs : List V} (h : DatL K al F ds vs) (z : ds.length ≤ sizeLine) (hQ : ∀ w F' al' H', Rel K E F' al' H' σ s → Stp σ s s F al H F' al' H' → VaR K E H al' F' H' σ s w (.im (.tup ds)) → Q w H') (p : Addr) (hp : H p = none) : Q (.ref p) (upd H p (.tup vs)) :=
  have hf := rel.sub.free hp
  hQ _ (upd F p (.tup vs)) al _ (rel.new hp) (.new hp hf) (Dat.tup upd_same (h.mono (.new hf)) z)
end
theorem OpS.or {r r' : R2} {f f' : D → D → Option Va} (h : OpS K r f) (h' : OpS K r' f') : OpS K (fun x y H Q => r x y H Q ∨ r' x y H Q) (fun p q => match f p q with
    | some v => some v
    | none => f' p q) := fun E F al H σ s x y p q va rel rx ry e Q hQ => by
  have e : (match f p q with
    | some v => some v
    | none => f' p q) = some va := e
  cases hf : f p q with
  | some v => rw [hf] at e; exact .inl (h E F al H σ s x y p q va rel rx ry (by rw [hf]; exact e) Q hQ)
  | none => rw [hf] at e; exact .inr (h' E F al H σ s x y p q va rel rx ry e Q hQ)

/-! ### arithmetic -/
def fAdd : D → D → Option Va
  | .int i, .int j => some (.im (.int (i + j)))
  | .str x, .str y => if x.length + y.length ≤ sizeLine then some (.im (.str (x ++ y))) else none
  | .lst xs, .lst ys => if xs.length + ys.length ≤ sizeLine then some (.fr (.lst (xs ++ ys))) else none
  | .tup xs, .tup ys => if xs.length + ys.length ≤ sizeLine then some (.im (.tup (xs ++ ys))) else none
  | _, _ => none
def rAddX (K : PySem.W.Frag) : R2 := fun x y H Q => (rI0 fun i j => .int (i + j)) x y H Q ∨ (fun x y H Q => (fun x y H Q => ∃ i j, x = .str i ∧ y = .str j ∧ i.length + j.length ≤ sizeLine ∧ Q (.str (i ++ j)) H) x y H Q ∨ (fun x y H Q => rCat x y H Q ∨ L2.rCatA K x y H Q) x y H Q) x y H Q
theorem op_addX : OpR X (binaryOp .Add) (rAddX X.K) := OpR.or op_add (OpR.or op_add_str (OpR.or op_cat op_catA))
theorem ops_add : OpS K (rAddX K) fAdd := fun E F al H σ s x y p q va rel rx ry e Q hQ => by
  unfold fAdd at e
  split at e
  · cases e
    cases rx.int; cases ry.int
    exact .inl ⟨_, _, rfl, rfl, fin_d rel (.int _) hQ⟩
  · split at e
    · cases e
      cases rx.str; cases ry.str
      exact .inr (.inl ⟨_, _, rfl, rfl, by assumption, fin_d rel (.str _) hQ⟩)
    · cases e
  · split at e
    · rename_i hz
      cases e
      obtain ⟨a, vs, rfl, h1, l1, z1⟩ := rx.lst rel.sub
      obtain ⟨b, us, rfl, h2, l2, z2⟩ := ry.lst rel.sub
      have e1 := l1.length
      have e2 := l2.length
      exact .inr (.inr (.inl ⟨a, b, vs, us, rfl, rfl, h1, h2, by omega, fin_l rel (l1.app l2) (by rw [List.length_append]; exact hz) hQ⟩))
    · cases e
  · split at e
    · rename_i xs ys hz
      cases e
      obtain ⟨a, vs, rfl, h1, l1, z1⟩ := rx.tup rel.sub
      obtain ⟨b, us, rfl, h2, l2, z2⟩ := ry.tup rel.sub
      have e1 := l1.length
      have e2 := l2.length
      refine .inr (.inr (.inr ⟨a, b, vs, us, rfl, rfl, .of h1, .of h2, by omega, fun h => ?_, fun _ h => ?_, fun _ _ p hp => fin_t rel (l1.app l2) (by rw [List.length_append]; exact hz) hQ p hp⟩))
      · have hn : us = us ∧ vs = [] := ⟨rfl, h⟩
        subst h
        cases l1
        exact hQ _ F al H rel .refl ry.tupD
      · subst h
        cases l2
        rw [List.append_nil] at hQ
        exact hQ _ F al H rel .refl rx.tupD
    · cases e
  · cases e
end
end VI
end
section
set_option Elab.async false
set_option linter.all false
set_option maxRecDepth 100000
set_option maxHeartbeats 2000000
/-! V5: == of data, in. -/
namespace VI
open PySem PySem.Spec L2

/-- None, bools, ints, texts, lists and tuples of these, less than n deep -/
def bas : Nat → D → Bool
  | 0, _ => false
  | _ + 1, .non => true
  | _ + 1, .bl _ => true
  | _ + 1, .int _ => true
  | _ + 1, .str _ => true
  | n + 1, .lst xs => xs.all (bas n)
  | n + 1, .tup xs => xs.all (bas n)
  | _ + 1, _ => false
def eqb : Nat → D → D → Bool
  | 0, _, _ => false
  | _ + 1, .non, .non => true
  | _ + 1, .bl a, .bl b => a == b
  | _ + 1, .bl a, .int j => (if a then 1 else 0) == j
  | _ + 1, .int i, .bl b => i == (if b then 1 else 0)
  | _ + 1, .int i, .int j => i == j
  | _ + 1, .str x, .str y => x == y
  | n + 1, .lst xs, .lst ys => xs.length == ys.length && (xs.zip ys).all fun p => eqb n p.1 p.2
  | n + 1, .tup xs, .tup ys => xs.length == ys.length && (xs.zip ys).all fun p => eqb n p.1 p.2
  | _ + 1, _, _ => false
theorem eqb_refl : ∀ (n : Nat) (p : D), bas n p = true → eqb n p p = true
  | 0, _, h => by cases h
  | n + 1, .non, _ => rfl
  | n + 1, .bl _, _ => by simp [eqb]
  | n + 1, .int _, _ => by simp [eqb]
  | n + 1, .str _, _ => by simp [eqb]
  | n + 1, .lst xs, h => by
    have h : xs.all (bas n) = true := h
    simp only [eqb, beq_self_eq_true, Bool.true_and, List.all_eq_true]
    intro q hq
    obtain ⟨i, hi, e⟩ := List.getElem_of_mem hq
    rw [List.getElem_zip] at e
    subst e
    exact eqb_refl n _ (List.all_eq_true.mp h _ (List.getElem_mem _))
  | n + 1, .tup xs, h => by
    have h : xs.all (bas n) = true := h
    simp only [eqb, beq_self_eq_true, Bool.true_and, List.all_eq_true]
    intro q hq
    obtain ⟨i, hi, e⟩ := List.getElem_of_mem hq
    rw [List.getElem_zip] at e
    subst e
    exact eqb_refl n _ (List.all_eq_true.mp h _ (List.getElem_mem _))
  | n + 1, .lz _, h => by cases h
  | n + 1, .tz _, h => by cases h
  | n + 1, .ty _, h => by cases h
  | n + 1, .dk _, h => by cases h
  | n + 1, .dt _, h => by cases h
  | n + 1, .ins _ _, h => by cases h
  | n + 1, .ref _, h => by cases h
  | n + 1, .fn _, h => by cases h
section
variable {K : PySem.W.Frag} {al : List Addr} {F H : Hp} {w : V}
theorem Dat.rdr {p : D} (h : Dat K al F p w) {n : Nat} (b : bas n p = true) : Rdr K al F H p w := .inl ⟨h, fun j e => by subst e; cases n <;> cases b⟩
theorem uniqL {n : Nat} (ih : ∀ (p q : D) (w : V), bas n p = true → bas n q = true → Dat K al F p w → Dat K al F q w → p = q) : ∀ (xs ys : List D) (vs : List V), xs.all (bas n) = true → ys.all (bas n) = true → DatL K al F xs vs → DatL K al F ys vs → xs = ys
  | _, _, _, _, _, .nil, .nil => rfl
  | _, _, _, b1, b2, .cons h t, .cons h' t' => by
    rw [List.all_cons, Bool.and_eq_true] at b1 b2
    rw [ih _ _ _ b1.1 b2.1 h h', uniqL ih _ _ _ b1.2 b2.2 t t']
theorem uniq (hs : Sub F H) : ∀ (n : Nat) (p q : D) (w : V), bas n p = true → bas n q = true → Rdr K al F H p w → Rdr K al F H q w → p = q
  | 0, _, _, _, h, _, _, _ => by cases h
  | n + 1, p, q, w, bp, bq, rp, rq => by
    have ih := uniqL (K := K) (al := al) (F := F) (n := n) fun p q w b1 b2 d1 d2 => uniq hs n p q w b1 b2 (d1.rdr b1) (d2.rdr b2)
    cases p with
    | non =>
      cases rp.non
      cases q with
      | non => rfl
      | bl _ => cases rq.bl
      | int _ => cases rq.int
      | str _ => cases rq.str
      | lst _ => obtain ⟨a, _, e, _⟩ := rq.lst hs; cases e
      | tup _ => obtain ⟨a, _, e, _⟩ := rq.tup hs; cases e
      | _ => cases bq
    | bl b =>
      cases rp.bl
      cases q with
      | non => cases rq.non
      | bl _ => cases rq.bl; rfl
      | int _ => cases rq.int
      | str _ => cases rq.str
      | lst _ => obtain ⟨a, _, e, _⟩ := rq.lst hs; cases e
      | tup _ => obtain ⟨a, _, e, _⟩ := rq.tup hs; cases e
      | _ => cases bq
    | int b =>
      cases rp.int
      cases q with
      | non => cases rq.non
      | bl _ => cases rq.bl
      | int _ => cases rq.int; rfl
      | str _ => cases rq.str
      | lst _ => obtain ⟨a, _, e, _⟩ := rq.lst hs; cases e
      | tup _ => obtain ⟨a, _, e, _⟩ := rq.tup hs; cases e
      | _ => cases bq
    | str b =>
      cases rp.str
      cases q with
      | non => cases rq.non
      | bl _ => cases rq.bl
      | int _ => cases rq.int
      | str _ => cases rq.str; rfl
      | lst _ => obtain ⟨a, _, e, _⟩ := rq.lst hs; cases e
      | tup _ => obtain ⟨a, _, e, _⟩ := rq.tup hs; cases e
      | _ => cases bq
    | lst xs =>
      obtain ⟨a, vs, e, h1, l1, _⟩ := rp.lst hs
      subst e
      cases q with
      | non => cases rq.non
      | bl _ => cases rq.bl
      | int _ => cases rq.int
      | str _ => cases rq.str
      | lst ys =>
        obtain ⟨b, us, e, h2, l2, _⟩ := rq.lst hs
        cases e
        rw [h1] at h2
        cases h2
        rw [ih _ _ _ bp bq l1 l2]
      | tup ys =>
        obtain ⟨b, us, e, h2, l2, _⟩ := rq.tup hs
        cases e
        rw [h1] at h2; cases h2
      | _ => cases bq
    | tup xs =>
      obtain ⟨a, vs, e, h1, l1, _⟩ := rp.tup hs
      subst e
      cases q with
      | non => cases rq.non
      | bl _ => cases rq.bl
      | int _ => cases rq.int
      | str _ => cases rq.str
      | lst ys =>
        obtain ⟨b, us, e, h2, l2, _⟩ := rq.lst hs
        cases e
        rw [h1] at h2; cases h2
      | tup ys =>
        obtain ⟨b, us, e, h2, l2, _⟩ := rq.tup hs
        cases e
        rw [h1] at h2
        cases h2
        rw [ih _ _ _ bp bq l1 l2]
      | _ => cases bq
    | _ => cases bp
end
section
variable {X : Cx} {pins : List (Addr × Obj)} {σ : L2.St} {s : Shared} {al : List Addr} {F H : Hp}
theorem range_all {f : Nat → Bool} {n : Nat} : (List.range n).all f = true ↔ ∀ i, i < n → f i = true := by simp [List.all_eq_true]
theorem zip_all {f : D → D → Bool} : ∀ (xs ys : List D), (List.range (min xs.length ys.length)).all (fun j => f (xs.getD j .non) (ys.getD j .non)) = (xs.zip ys).all fun p => f p.1 p.2 := fun xs ys => by
  rw [Bool.eq_iff_iff, range_all, List.all_eq_true]
  constructor
  · intro h p hp
    obtain ⟨i, hi, e⟩ := List.getElem_of_mem hp
    rw [List.getElem_zip] at e
    rw [List.length_zip] at hi
    subst e
    have q := h i hi
    rw [List.getD_eq_getElem?_getD, List.getD_eq_getElem?_getD, List.getElem?_eq_getElem (by omega), List.getElem?_eq_getElem (by omega)] at q
    exact q
  · intro h i hi
    have hz : i < (xs.zip ys).length := by rw [List.length_zip]; exact hi
    have q := h _ (List.getElem_mem hz)
    rw [List.getElem_zip] at q
    rw [List.getD_eq_getElem?_getD, List.getD_eq_getElem?_getD, List.getElem?_eq_getElem (by omega), List.getElem?_eq_getElem (by omega)]
    exact q
theorem eqAt_D (I : Inv X pins σ H s) (hs : Sub F H) : ∀ (n : Nat) (A : Around), A.units + n < cLine → ∀ (p q : D) (x y : V) (u v : Value), bas n p = true → bas n q = true → Rdr X.K al F H p x → Rdr X.K al F H q y → RelV x u → RelV y v → SeqAt.EqAt A s u v (eqb n p q)
  | 0, _, _, _, _, _, _, _, _, h, _, _, _, _, _ => by cases h
  | n + 1, A, hu, p, q, x, y, u, v, bp, bq, rp, rq, ru, rv => by
    have hA : A.units < cLine := by omega
    have hin : A.in1.units + n < cLine := by show A.units + 1 + n < cLine; omega
    have ih := eqAt_D I hs n A.in1 hin
    cases p with
    | non =>
      cases rp.non; cases ru
      cases q with
      | non => cases rq.non; cases rv; exact .same _
      | bl _ => cases rq.bl; cases rv; exact .none_bool _
      | int _ => cases rq.int; obtain ⟨t, rfl⟩ := rv; exact .none_int _ _
      | str _ => cases rq.str; obtain ⟨t, rfl⟩ := rv; exact .none_str _ _
      | lst _ =>
        obtain ⟨a, _, rfl, h, _⟩ := rq.lst hs
        cases rv
        obtain ⟨its, _, pl, _⟩ := I.list (.inl (.inl h))
        exact .none_list pl.isList hA
      | tup _ =>
        obtain ⟨a, _, rfl, h, _⟩ := rq.tup hs
        cases rv
        obtain ⟨its, _, pl, _⟩ := I.tuple (.inl (.inl h))
        exact .none_tuple pl hA
      | _ => cases bq
    | bl b =>
      cases rp.bl; cases ru
      cases q with
      | non => cases rq.non; cases rv; exact .bool_none _
      | bl _ => cases rq.bl; cases rv; exact .bool_bool _ _
      | int _ => cases rq.int; obtain ⟨t, rfl⟩ := rv; exact .bool_int _ _ _
      | str _ => cases rq.str; obtain ⟨t, rfl⟩ := rv; exact .bool_str _ _ _
      | lst _ =>
        obtain ⟨a, _, rfl, h, _⟩ := rq.lst hs
        cases rv
        obtain ⟨its, _, pl, _⟩ := I.list (.inl (.inl h))
        exact .bool_list _ pl.isList hA
      | tup _ =>
        obtain ⟨a, _, rfl, h, _⟩ := rq.tup hs
        cases rv
        obtain ⟨its, _, pl, _⟩ := I.tuple (.inl (.inl h))
        exact .bool_tuple _ pl hA
      | _ => cases bq
    | int b =>
      cases rp.int; obtain ⟨t, rfl⟩ := ru
      cases q with
      | non => cases rq.non; cases rv; exact .int_none _ _
      | bl _ => cases rq.bl; cases rv; exact .int_bool _ _ _
      | int _ => cases rq.int; obtain ⟨t, rfl⟩ := rv; exact .int_int _ _ _ _
      | str _ => cases rq.str; obtain ⟨t, rfl⟩ := rv; exact .int_str _ _ _ _
      | lst _ =>
        obtain ⟨a, _, rfl, h, _⟩ := rq.lst hs
        cases rv
        obtain ⟨its, _, pl, _⟩ := I.list (.inl (.inl h))
        exact .int_list _ _ pl.isList hA
      | tup _ =>
        obtain ⟨a, _, rfl, h, _⟩ := rq.tup hs
        cases rv
        obtain ⟨its, _, pl, _⟩ := I.tuple (.inl (.inl h))
        exact .int_tuple _ _ pl hA
      | _ => cases bq
    | str b =>
      cases rp.str; obtain ⟨t, rfl⟩ := ru
      cases q with
      | non => cases rq.non; cases rv; exact .str_none _ _
      | bl _ => cases rq.bl; cases rv; exact .str_bool _ _ _
      | int _ => cases rq.int; obtain ⟨t, rfl⟩ := rv; exact .str_int _ _ _ _
      | str _ => cases rq.str; obtain ⟨t, rfl⟩ := rv; exact .str_str _ _ _ _
      | lst _ =>
        obtain ⟨a, _, rfl, h, _⟩ := rq.lst hs
        cases rv
        obtain ⟨its, _, pl, _⟩ := I.list (.inl (.inl h))
        exact .str_list _ _ pl.isList hA
      | tup _ =>
        obtain ⟨a, _, rfl, h, _⟩ := rq.tup hs
        cases rv
        obtain ⟨its, _, pl, _⟩ := I.tuple (.inl (.inl h))
        exact .str_tuple _ _ pl hA
      | _ => cases bq
    | lst xs =>
      obtain ⟨a, vs, rfl, h1, l1, z1⟩ := id (rp.lst hs)
      cases ru
      obtain ⟨its, r1, pl, _⟩ := I.list (.inl (.inl h1))
      cases q with
      | non => cases rq.non; cases rv; exact .list_none pl.isList hA
      | bl _ => cases rq.bl; cases rv; exact .list_bool _ pl.isList hA
      | int _ => cases rq.int; obtain ⟨t, rfl⟩ := rv; exact .list_int _ _ pl.isList hA
      | str _ => cases rq.str; obtain ⟨t, rfl⟩ := rv; exact .list_str _ _ pl.isList hA
      | lst ys =>
        obtain ⟨b, us, rfl, h2, l2, z2⟩ := id (rq.lst hs)
        cases rv
        by_cases e : a = b
        · subst e
          have e2 := uniq hs (n + 1) (.lst xs) (.lst ys) _ bp bq rp rq
          rw [← e2, eqb_refl _ _ bp]
          exact .same _
        · obtain ⟨its2, r2, pl2, _⟩ := I.list (.inl (.inl h2))
          have n1 := l1.length
          have n2 := l2.length
          have m1 := r1.length
          have m2 := r2.length
          refine .of_refs e ?_
          by_cases hl : xs.length = ys.length
          · have q := SeqAt.RcAt.lists (e := fun j => eqb n (xs.getD j .non) (ys.getD j .non)) pl.isList pl2.isList (by simp only [List.size_toArray]; omega) hA fun j g1 g2 => ?_
            · have e3 : (List.range its.toArray.size).all (fun j => eqb n (xs.getD j .non) (ys.getD j .non)) = eqb (n + 1) (.lst xs) (.lst ys) := by
                show _ = (xs.length == ys.length && (xs.zip ys).all fun p => eqb n p.1 p.2)
                rw [← zip_all, hl, Nat.min_self, beq_self_eq_true, Bool.true_and, List.size_toArray]
                congr 2
                omega
              rw [e3] at q
              exact q
            · simp only [List.size_toArray] at g1 g2
              have k1 : j < xs.length := by omega
              have k2 : j < ys.length := by omega
              obtain ⟨v1, f1, d1⟩ := l1.getD (List.getElem?_eq_getElem k1)
              obtain ⟨v2, f2, d2⟩ := l2.getD (List.getElem?_eq_getElem k2)
              obtain ⟨u1, q1, w1⟩ := r1.get f1
              obtain ⟨u2, q2, w2⟩ := r2.get f2
              have a1 := List.all_eq_true.mp (show xs.all (bas n) = true from bp) _ (List.getElem_mem k1)
              have a2 := List.all_eq_true.mp (show ys.all (bas n) = true from bq) _ (List.getElem_mem k2)
              have b1 : its.toArray[j] = u1 := by simpa using (List.getElem_eq_iff (h := g1)).mpr q1
              have b2 : its2.toArray[j] = u2 := by simpa using (List.getElem_eq_iff (h := g2)).mpr q2
              rw [b1, b2]
              rw [List.getD_eq_getElem?_getD, List.getD_eq_getElem?_getD, List.getElem?_eq_getElem k1, List.getElem?_eq_getElem k2]
              exact ih _ _ _ _ _ _ a1 a2 (d1.rdr a1) (d2.rdr a2) w1 w2
          · have e3 : eqb (n + 1) (.lst xs) (.lst ys) = false := by
              show (xs.length == ys.length && _) = false
              rw [beq_eq_false_iff_ne.mpr hl, Bool.false_and]
            rw [e3]
            exact .lists_lengths pl.isList pl2.isList (by simp only [List.size_toArray, bne_iff_ne, ne_eq]; omega) hA
      | tup ys =>
        obtain ⟨b, us, rfl, h2, l2, z2⟩ := rq.tup hs
        cases rv
        obtain ⟨its2, r2, pl2, _⟩ := I.tuple (.inl (.inl h2))
        exact .list_tuple pl.isList pl2 hA
      | _ => cases bq
    | tup xs =>
      obtain ⟨a, vs, rfl, h1, l1, z1⟩ := id (rp.tup hs)
      cases ru
      obtain ⟨its, r1, pl, _⟩ := I.tuple (.inl (.inl h1))
      cases q with
      | non => cases rq.non; cases rv; exact .tuple_none pl hA
      | bl _ => cases rq.bl; cases rv; exact .tuple_bool _ pl hA
      | int _ => cases rq.int; obtain ⟨t, rfl⟩ := rv; exact .tuple_int _ _ pl hA
      | str _ => cases rq.str; obtain ⟨t, rfl⟩ := rv; exact .tuple_str _ _ pl hA
      | lst ys =>
        obtain ⟨b, us, rfl, h2, l2, z2⟩ := rq.lst hs
        cases rv
        obtain ⟨its2, r2, pl2, _⟩ := I.list (.inl (.inl h2))
        exact .tuple_list pl pl2.isList hA
      | tup ys =>
        obtain ⟨b, us, rfl, h2, l2, z2⟩ := id (rq.tup hs)
        cases rv
        by_cases e : a = b
        · subst e
          have e2 := uniq hs (n + 1) (.tup xs) (.tup ys) _ bp bq rp rq
          rw [← e2, eqb_refl _ _ bp]
          exact .same _
        · obtain ⟨its2, r2, pl2, _⟩ := I.tuple (.inl (.inl h2))
          have n1 := l1.length
          have n2 := l2.length
          have m1 := r1.length
          have m2 := r2.length
          refine .of_refs e ?_
          have q := SeqAt.RcAt.tuples (e := fun j => eqb n (xs.getD j .non) (ys.getD j .non)) pl pl2 hA fun j g1 g2 => ?_
          · have e3 : ((List.range (min its.toArray.size its2.toArray.size)).all (fun j => eqb n (xs.getD j .non) (ys.getD j .non)) && its.toArray.size == its2.toArray.size) = eqb (n + 1) (.tup xs) (.tup ys) := by
              show _ = (xs.length == ys.length && (xs.zip ys).all fun p => eqb n p.1 p.2)
              rw [← zip_all, Bool.and_comm, List.size_toArray, List.size_toArray, show its.length = xs.length by omega, show its2.length = ys.length by omega]
            rw [e3] at q
            exact q
          · simp only [List.size_toArray] at g1 g2
            have k1 : j < xs.length := by omega
            have k2 : j < ys.length := by omega
            obtain ⟨v1, f1, d1⟩ := l1.getD (List.getElem?_eq_getElem k1)
            obtain ⟨v2, f2, d2⟩ := l2.getD (List.getElem?_eq_getElem k2)
            obtain ⟨u1, q1, w1⟩ := r1.get f1
            obtain ⟨u2, q2, w2⟩ := r2.get f2
            have a1 := List.all_eq_true.mp (show xs.all (bas n) = true from bp) _ (List.getElem_mem k1)
            have a2 := List.all_eq_true.mp (show ys.all (bas n) = true from bq) _ (List.getElem_mem k2)
            have b1 : its.toArray[j] = u1 := by simpa using (List.getElem_eq_iff (h := g1)).mpr q1
            have b2 : its2.toArray[j] = u2 := by simpa using (List.getElem_eq_iff (h := g2)).mpr q2
            rw [b1, b2]
            rw [List.getD_eq_getElem?_getD, List.getD_eq_getElem?_getD, List.getElem?_eq_getElem k1, List.getElem?_eq_getElem k2]
            exact ih _ _ _ _ _ _ a1 a2 (d1.rdr a1) (d2.rdr a2) w1 w2
      | _ => cases bq
    | _ => cases bp
end
end VI
end
section
set_option Elab.async false
set_option linter.all false
set_option maxRecDepth 100000
set_option maxHeartbeats 2000000
/-! V5b: == and != as operators, in and not in. (rcAt_D, rcNeAt_D are printed by gen_v5b.py out of eqAt_D.) -/
namespace VI
open PySem PySem.Spec L2
section
variable {X : Cx} {pins : List (Addr × Obj)} {σ : L2.St} {s : Shared} {al : List Addr} {F H : Hp}
theorem rcAt_D (I : Inv X pins σ H s) (hs : Sub F H) : ∀ (n : Nat) (A : Around), A.units + n < cLine → ∀ (p q : D) (x y : V) (u v : Value), bas n p = true → bas n q = true → Rdr X.K al F H p x → Rdr X.K al F H q y → RelV x u → RelV y v → SeqAt.RcAt A s u v (eqb n p q)
  | 0, _, _, _, _, _, _, _, _, h, _, _, _, _, _ => by cases h
  | n + 1, A, hu, p, q, x, y, u, v, bp, bq, rp, rq, ru, rv => by
    have hA : A.units < cLine := by omega
    have hin : A.in1.units + n < cLine := by show A.units + 1 + n < cLine; omega
    have ih := eqAt_D (al := al) (F := F) I hs n A.in1 hin
    cases p with
    | non =>
      cases rp.non; cases ru
      cases q with
      | non => cases rq.non; cases rv; exact .none_none
      | bl _ => cases rq.bl; cases rv; exact .none_bool _
      | int _ => cases rq.int; obtain ⟨t, rfl⟩ := rv; exact .none_int _ _
      | str _ => cases rq.str; obtain ⟨t, rfl⟩ := rv; exact .none_str _ _
      | lst _ =>
        obtain ⟨a, _, rfl, h, _⟩ := rq.lst hs
        cases rv
        obtain ⟨its, _, pl, _⟩ := I.list (.inl (.inl h))
        exact .none_list pl.isList hA
      | tup _ =>
        obtain ⟨a, _, rfl, h, _⟩ := rq.tup hs
        cases rv
        obtain ⟨its, _, pl, _⟩ := I.tuple (.inl (.inl h))
        exact .none_tuple pl hA
      | _ => cases bq
    | bl b =>
      cases rp.bl; cases ru
      cases q with
      | non => cases rq.non; cases rv; exact .bool_none _
      | bl _ => cases rq.bl; cases rv; exact .bool_bool _ _
      | int _ => cases rq.int; obtain ⟨t, rfl⟩ := rv; exact .bool_int _ _ _
      | str _ => cases rq.str; obtain ⟨t, rfl⟩ := rv; exact .bool_str _ _ _
      | lst _ =>
        obtain ⟨a, _, rfl, h, _⟩ := rq.lst hs
        cases rv
        obtain ⟨its, _, pl, _⟩ := I.list (.inl (.inl h))
        exact .bool_list _ pl.isList hA
      | tup _ =>
        obtain ⟨a, _, rfl, h, _⟩ := rq.tup hs
        cases rv
        obtain ⟨its, _, pl, _⟩ := I.tuple (.inl (.inl h))
        exact .bool_tuple _ pl hA
      | _ => cases bq
    | int b =>
      cases rp.int; obtain ⟨t, rfl⟩ := ru
      cases q with
      | non => cases rq.non; cases rv; exact .int_none _ _
      | bl _ => cases rq.bl; cases rv; exact .int_bool _ _ _
      | int _ => cases rq.int; obtain ⟨t, rfl⟩ := rv; exact .int_int _ _ _ _
      | str _ => cases rq.str; obtain ⟨t, rfl⟩ := rv; exact .int_str _ _ _ _
      | lst _ =>
        obtain ⟨a, _, rfl, h, _⟩ := rq.lst hs
        cases rv
        obtain ⟨its, _, pl, _⟩ := I.list (.inl (.inl h))
        exact .int_list _ _ pl.isList hA
      | tup _ =>
        obtain ⟨a, _, rfl, h, _⟩ := rq.tup hs
        cases rv
        obtain ⟨its, _, pl, _⟩ := I.tuple (.inl (.inl h))
        exact .int_tuple _ _ pl hA
      | _ => cases bq
    | str b =>
      cases rp.str; obtain ⟨t, rfl⟩ := ru
      cases q with
      | non => cases rq.non; cases rv; exact .str_none _ _
      | bl _ => cases rq.bl; cases rv; exact .str_bool _ _ _
      | int _ => cases rq.int; obtain ⟨t, rfl⟩ := rv; exact .str_int _ _ _ _
      | str _ => cases rq.str; obtain ⟨t, rfl⟩ := rv; exact .str_str _ _ _ _
      | lst _ =>
        obtain ⟨a, _, rfl, h, _⟩ := rq.lst hs
        cases rv
        obtain ⟨its, _, pl, _⟩ := I.list (.inl (.inl h))
        exact .str_list _ _ pl.isList hA
      | tup _ =>
        obtain ⟨a, _, rfl, h, _⟩ := rq.tup hs
        cases rv
        obtain ⟨its, _, pl, _⟩ := I.tuple (.inl (.inl h))
        exact .str_tuple _ _ pl hA
      | _ => cases bq
    | lst xs =>
      obtain ⟨a, vs, rfl, h1, l1, z1⟩ := id (rp.lst hs)
      cases ru
      obtain ⟨its, r1, pl, _⟩ := I.list (.inl (.inl h1))
      cases q with
      | non => cases rq.non; cases rv; exact .list_none pl.isList hA
      | bl _ => cases rq.bl; cases rv; exact .list_bool _ pl.isList hA
      | int _ => cases rq.int; obtain ⟨t, rfl⟩ := rv; exact .list_int _ _ pl.isList hA
      | str _ => cases rq.str; obtain ⟨t, rfl⟩ := rv; exact .list_str _ _ pl.isList hA
      | lst ys =>
        obtain ⟨b, us, rfl, h2, l2, z2⟩ := id (rq.lst hs)
        cases rv
        obtain ⟨its2, r2, pl2, _⟩ := I.list (.inl (.inl h2))
        have n1 := l1.length
        have n2 := l2.length
        have m1 := r1.length
        have m2 := r2.length
        by_cases hl : xs.length = ys.length
        · have q := SeqAt.RcAt.lists (e := fun j => eqb n (xs.getD j .non) (ys.getD j .non)) pl.isList pl2.isList (by simp only [List.size_toArray]; omega) hA fun j g1 g2 => ?_
          · have e3 : (List.range its.toArray.size).all (fun j => eqb n (xs.getD j .non) (ys.getD j .non)) = eqb (n + 1) (.lst xs) (.lst ys) := by
              show _ = (xs.length == ys.length && (xs.zip ys).all fun p => eqb n p.1 p.2)
              rw [← zip_all, hl, Nat.min_self, beq_self_eq_true, Bool.true_and, List.size_toArray]
              congr 2
              omega
            rw [e3] at q
            exact q
          · simp only [List.size_toArray] at g1 g2
            have k1 : j < xs.length := by omega
            have k2 : j < ys.length := by omega
            obtain ⟨v1, f1, d1⟩ := l1.getD (List.getElem?_eq_getElem k1)
            obtain ⟨v2, f2, d2⟩ := l2.getD (List.getElem?_eq_getElem k2)
            obtain ⟨u1, q1, w1⟩ := r1.get f1
            obtain ⟨u2, q2, w2⟩ := r2.get f2
            have a1 := List.all_eq_true.mp (show xs.all (bas n) = true from bp) _ (List.getElem_mem k1)
            have a2 := List.all_eq_true.mp (show ys.all (bas n) = true from bq) _ (List.getElem_mem k2)
            have b1 : its.toArray[j] = u1 := by simpa using (List.getElem_eq_iff (h := g1)).mpr q1
            have b2 : its2.toArray[j] = u2 := by simpa using (List.getElem_eq_iff (h := g2)).mpr q2
            rw [b1, b2]
            rw [List.getD_eq_getElem?_getD, List.getD_eq_getElem?_getD, List.getElem?_eq_getElem k1, List.getElem?_eq_getElem k2]
            exact ih _ _ _ _ _ _ a1 a2 (d1.rdr a1) (d2.rdr a2) w1 w2
        · have e3 : eqb (n + 1) (.lst xs) (.lst ys) = false := by
            show (xs.length == ys.length && _) = false
            rw [beq_eq_false_iff_ne.mpr hl, Bool.false_and]
          rw [e3]
          exact .lists_lengths pl.isList pl2.isList (by simp only [List.size_toArray, bne_iff_ne, ne_eq]; omega) hA
      | tup ys =>
        obtain ⟨b, us, rfl, h2, l2, z2⟩ := rq.tup hs
        cases rv
        obtain ⟨its2, r2, pl2, _⟩ := I.tuple (.inl (.inl h2))
        exact .list_tuple pl.isList pl2 hA
      | _ => cases bq
    | tup xs =>
      obtain ⟨a, vs, rfl, h1, l1, z1⟩ := id (rp.tup hs)
      cases ru
      obtain ⟨its, r1, pl, _⟩ := I.tuple (.inl (.inl h1))
      cases q with
      | non => cases rq.non; cases rv; exact .tuple_none pl hA
      | bl _ => cases rq.bl; cases rv; exact .tuple_bool _ pl hA
      | int _ => cases rq.int; obtain ⟨t, rfl⟩ := rv; exact .tuple_int _ _ pl hA
      | str _ => cases rq.str; obtain ⟨t, rfl⟩ := rv; exact .tuple_str _ _ pl hA
      | lst ys =>
        obtain ⟨b, us, rfl, h2, l2, z2⟩ := rq.lst hs
        cases rv
        obtain ⟨its2, r2, pl2, _⟩ := I.list (.inl (.inl h2))
        exact .tuple_list pl pl2.isList hA
      | tup ys =>
        obtain ⟨b, us, rfl, h2, l2, z2⟩ := id (rq.tup hs)
        cases rv
        obtain ⟨its2, r2, pl2, _⟩ := I.tuple (.inl (.inl h2))
        have n1 := l1.length
        have n2 := l2.length
        have m1 := r1.length
        have m2 := r2.length
        have q := SeqAt.RcAt.tuples (e := fun j => eqb n (xs.getD j .non) (ys.getD j .non)) pl pl2 hA fun j g1 g2 => ?_
        · have e3 : ((List.range (min its.toArray.size its2.toArray.size)).all (fun j => eqb n (xs.getD j .non) (ys.getD j .non)) && its.toArray.size == its2.toArray.size) = eqb (n + 1) (.tup xs) (.tup ys) := by
            show _ = (xs.length == ys.length && (xs.zip ys).all fun p => eqb n p.1 p.2)
            rw [← zip_all, Bool.and_comm, List.size_toArray, List.size_toArray, show its.length = xs.length by omega, show its2.length = ys.length by omega]
          rw [e3] at q
          exact q
        · simp only [List.size_toArray] at g1 g2
          have k1 : j < xs.length := by omega
          have k2 : j < ys.length := by omega
          obtain ⟨v1, f1, d1⟩ := l1.getD (List.getElem?_eq_getElem k1)
          obtain ⟨v2, f2, d2⟩ := l2.getD (List.getElem?_eq_getElem k2)
          obtain ⟨u1, q1, w1⟩ := r1.get f1
          obtain ⟨u2, q2, w2⟩ := r2.get f2
          have a1 := List.all_eq_true.mp (show xs.all (bas n) = true from bp) _ (List.getElem_mem k1)
          have a2 := List.all_eq_true.mp (show ys.all (bas n) = true from bq) _ (List.getElem_mem k2)
          have b1 : its.toArray[j] = u1 := by simpa using (List.getElem_eq_iff (h := g1)).mpr q1
          have b2 : its2.toArray[j] = u2 := by simpa using (List.getElem_eq_iff (h := g2)).mpr q2
          rw [b1, b2]
          rw [List.getD_eq_getElem?_getD, List.getD_eq_getElem?_getD, List.getElem?_eq_getElem k1, List.getElem?_eq_getElem k2]
          exact ih _ _ _ _ _ _ a1 a2 (d1.rdr a1) (d2.rdr a2) w1 w2
      | _ => cases bq
    | _ => cases bp
theorem rcNeAt_D (I : Inv X pins σ H s) (hs : Sub F H) : ∀ (n : Nat) (A : Around), A.units + n < cLine → ∀ (p q : D) (x y : V) (u v : Value), bas n p = true → bas n q = true → Rdr X.K al F H p x → Rdr X.K al F H q y → RelV x u → RelV y v → SeqAt.RcNeAt A s u v (!eqb n p q)
  | 0, _, _, _, _, _, _, _, _, h, _, _, _, _, _ => by cases h
  | n + 1, A, hu, p, q, x, y, u, v, bp, bq, rp, rq, ru, rv => by
    have hA : A.units < cLine := by omega
    have hin : A.in1.units + n < cLine := by show A.units + 1 + n < cLine; omega
    have ih := eqAt_D (al := al) (F := F) I hs n A.in1 hin
    cases p with
    | non =>
      cases rp.non; cases ru
      cases q with
      | non => cases rq.non; cases rv; exact .none_none
      | bl _ => cases rq.bl; cases rv; exact .none_bool _
      | int _ => cases rq.int; obtain ⟨t, rfl⟩ := rv; exact .none_int _ _
      | str _ => cases rq.str; obtain ⟨t, rfl⟩ := rv; exact .none_str _ _
      | lst _ =>
        obtain ⟨a, _, rfl, h, _⟩ := rq.lst hs
        cases rv
        obtain ⟨its, _, pl, _⟩ := I.list (.inl (.inl h))
        exact .none_list pl.isList hA
      | tup _ =>
        obtain ⟨a, _, rfl, h, _⟩ := rq.tup hs
        cases rv
        obtain ⟨its, _, pl, _⟩ := I.tuple (.inl (.inl h))
        exact .none_tuple pl hA
      | _ => cases bq
    | bl b =>
      cases rp.bl; cases ru
      cases q with
      | non => cases rq.non; cases rv; exact .bool_none _
      | bl _ => cases rq.bl; cases rv; exact .bool_bool _ _
      | int _ => cases rq.int; obtain ⟨t, rfl⟩ := rv; exact .bool_int _ _ _
      | str _ => cases rq.str; obtain ⟨t, rfl⟩ := rv; exact .bool_str _ _ _
      | lst _ =>
        obtain ⟨a, _, rfl, h, _⟩ := rq.lst hs
        cases rv
        obtain ⟨its, _, pl, _⟩ := I.list (.inl (.inl h))
        exact .bool_list _ pl.isList hA
      | tup _ =>
        obtain ⟨a, _, rfl, h, _⟩ := rq.tup hs
        cases rv
        obtain ⟨its, _, pl, _⟩ := I.tuple (.inl (.inl h))
        exact .bool_tuple _ pl hA
      | _ => cases bq
    | int b =>
      cases rp.int; obtain ⟨t, rfl⟩ := ru
      cases q with
      | non => cases rq.non; cases rv; exact .int_none _ _
      | bl _ => cases rq.bl; cases rv; exact .int_bool _ _ _
      | int _ => cases rq.int; obtain ⟨t, rfl⟩ := rv; exact .int_int _ _ _ _
      | str _ => cases rq.str; obtain ⟨t, rfl⟩ := rv; exact .int_str _ _ _ _
      | lst _ =>
        obtain ⟨a, _, rfl, h, _⟩ := rq.lst hs
        cases rv
        obtain ⟨its, _, pl, _⟩ := I.list (.inl (.inl h))
        exact .int_list _ _ pl.isList hA
      | tup _ =>
        obtain ⟨a, _, rfl, h, _⟩ := rq.tup hs
        cases rv
        obtain ⟨its, _, pl, _⟩ := I.tuple (.inl (.inl h))
        exact .int_tuple _ _ pl hA
      | _ => cases bq
    | str b =>
      cases rp.str; obtain ⟨t, rfl⟩ := ru
      cases q with
      | non => cases rq.non; cases rv; exact .str_none _ _
      | bl _ => cases rq.bl; cases rv; exact .str_bool _ _ _
      | int _ => cases rq.int; obtain ⟨t, rfl⟩ := rv; exact .str_int _ _ _ _
      | str _ => cases rq.str; obtain ⟨t, rfl⟩ := rv; exact .str_str _ _ _ _
      | lst _ =>
        obtain ⟨a, _, rfl, h, _⟩ := rq.lst hs
        cases rv
        obtain ⟨its, _, pl, _⟩ := I.list (.inl (.inl h))
        exact .str_list _ _ pl.isList hA
      | tup _ =>
        obtain ⟨a, _, rfl, h, _⟩ := rq.tup hs
        cases rv
        obtain ⟨its, _, pl, _⟩ := I.tuple (.inl (.inl h))
        exact .str_tuple _ _ pl hA
      | _ => cases bq
    | lst xs =>
      obtain ⟨a, vs, rfl, h1, l1, z1⟩ := id (rp.lst hs)
      cases ru
      obtain ⟨its, r1, pl, _⟩ := I.list (.inl (.inl h1))
      cases q with
      | non => cases rq.non; cases rv; exact .list_none pl.isList hA
      | bl _ => cases rq.bl; cases rv; exact .list_bool _ pl.isList hA
      | int _ => cases rq.int; obtain ⟨t, rfl⟩ := rv; exact .list_int _ _ pl.isList hA
      | str _ => cases rq.str; obtain ⟨t, rfl⟩ := rv; exact .list_str _ _ pl.isList hA
      | lst ys =>
        obtain ⟨b, us, rfl, h2, l2, z2⟩ := id (rq.lst hs)
        cases rv
        obtain ⟨its2, r2, pl2, _⟩ := I.list (.inl (.inl h2))
        have n1 := l1.length
        have n2 := l2.length
        have m1 := r1.length
        have m2 := r2.length
        by_cases hl : xs.length = ys.length
        · have q := SeqAt.RcNeAt.lists (e := fun j => eqb n (xs.getD j .non) (ys.getD j .non)) pl.isList pl2.isList (by simp only [List.size_toArray]; omega) hA fun j g1 g2 => ?_
          · have e3 : (List.range its.toArray.size).all (fun j => eqb n (xs.getD j .non) (ys.getD j .non)) = eqb (n + 1) (.lst xs) (.lst ys) := by
              show _ = (xs.length == ys.length && (xs.zip ys).all fun p => eqb n p.1 p.2)
              rw [← zip_all, hl, Nat.min_self, beq_self_eq_true, Bool.true_and, List.size_toArray]
              congr 2
              omega
            rw [e3] at q
            exact q
          · simp only [List.size_toArray] at g1 g2
            have k1 : j < xs.length := by omega
            have k2 : j < ys.length := by omega
            obtain ⟨v1, f1, d1⟩ := l1.getD (List.getElem?_eq_getElem k1)
            obtain ⟨v2, f2, d2⟩ := l2.getD (List.getElem?_eq_getElem k2)
            obtain ⟨u1, q1, w1⟩ := r1.get f1
            obtain ⟨u2, q2, w2⟩ := r2.get f2
            have a1 := List.all_eq_true.mp (show xs.all (bas n) = true from bp) _ (List.getElem_mem k1)
            have a2 := List.all_eq_true.mp (show ys.all (bas n) = true from bq) _ (List.getElem_mem k2)
            have b1 : its.toArray[j] = u1 := by simpa using (List.getElem_eq_iff (h := g1)).mpr q1
            have b2 : its2.toArray[j] = u2 := by simpa using (List.getElem_eq_iff (h := g2)).mpr q2
            rw [b1, b2]
            rw [List.getD_eq_getElem?_getD, List.getD_eq_getElem?_getD, List.getElem?_eq_getElem k1, List.getElem?_eq_getElem k2]
            exact ih _ _ _ _ _ _ a1 a2 (d1.rdr a1) (d2.rdr a2) w1 w2
        · have e3 : eqb (n + 1) (.lst xs) (.lst ys) = false := by
            show (xs.length == ys.length && _) = false
            rw [beq_eq_false_iff_ne.mpr hl, Bool.false_and]
          rw [e3]
          exact .lists_lengths pl.isList pl2.isList (by simp only [List.size_toArray, bne_iff_ne, ne_eq]; omega) hA
      | tup ys =>
        obtain ⟨b, us, rfl, h2, l2, z2⟩ := rq.tup hs
        cases rv
        obtain ⟨its2, r2, pl2, _⟩ := I.tuple (.inl (.inl h2))
        exact .list_tuple pl.isList pl2 hA
      | _ => cases bq
    | tup xs =>
      obtain ⟨a, vs, rfl, h1, l1, z1⟩ := id (rp.tup hs)
      cases ru
      obtain ⟨its, r1, pl, _⟩ := I.tuple (.inl (.inl h1))
      cases q with
      | non => cases rq.non; cases rv; exact .tuple_none pl hA
      | bl _ => cases rq.bl; cases rv; exact .tuple_bool _ pl hA
      | int _ => cases rq.int; obtain ⟨t, rfl⟩ := rv; exact .tuple_int _ _ pl hA
      | str _ => cases rq.str; obtain ⟨t, rfl⟩ := rv; exact .tuple_str _ _ pl hA
      | lst ys =>
        obtain ⟨b, us, rfl, h2, l2, z2⟩ := rq.lst hs
        cases rv
        obtain ⟨its2, r2, pl2, _⟩ := I.list (.inl (.inl h2))
        exact .tuple_list pl pl2.isList hA
      | tup ys =>
        obtain ⟨b, us, rfl, h2, l2, z2⟩ := id (rq.tup hs)
        cases rv
        obtain ⟨its2, r2, pl2, _⟩ := I.tuple (.inl (.inl h2))
        have n1 := l1.length
        have n2 := l2.length
        have m1 := r1.length
        have m2 := r2.length
        have q := SeqAt.RcNeAt.tuples (e := fun j => eqb n (xs.getD j .non) (ys.getD j .non)) pl pl2 hA fun j g1 g2 => ?_
        · have e3 : ((List.range (min its.toArray.size its2.toArray.size)).all (fun j => eqb n (xs.getD j .non) (ys.getD j .non)) && its.toArray.size == its2.toArray.size) = eqb (n + 1) (.tup xs) (.tup ys) := by
            show _ = (xs.length == ys.length && (xs.zip ys).all fun p => eqb n p.1 p.2)
            rw [← zip_all, Bool.and_comm, List.size_toArray, List.size_toArray, show its.length = xs.length by omega, show its2.length = ys.length by omega]
          rw [e3] at q
          exact q
        · simp only [List.size_toArray] at g1 g2
          have k1 : j < xs.length := by omega
          have k2 : j < ys.length := by omega
          obtain ⟨v1, f1, d1⟩ := l1.getD (List.getElem?_eq_getElem k1)
          obtain ⟨v2, f2, d2⟩ := l2.getD (List.getElem?_eq_getElem k2)
          obtain ⟨u1, q1, w1⟩ := r1.get f1
          obtain ⟨u2, q2, w2⟩ := r2.get f2
          have a1 := List.all_eq_true.mp (show xs.all (bas n) = true from bp) _ (List.getElem_mem k1)
          have a2 := List.all_eq_true.mp (show ys.all (bas n) = true from bq) _ (List.getElem_mem k2)
          have b1 : its.toArray[j] = u1 := by simpa using (List.getElem_eq_iff (h := g1)).mpr q1
          have b2 : its2.toArray[j] = u2 := by simpa using (List.getElem_eq_iff (h := g2)).mpr q2
          rw [b1, b2]
          rw [List.getD_eq_getElem?_getD, List.getD_eq_getElem?_getD, List.getElem?_eq_getElem k1, List.getElem?_eq_getElem k2]
          exact ih _ _ _ _ _ _ a1 a2 (d1.rdr a1) (d2.rdr a2) w1 w2
      | _ => cases bq
    | _ => cases bp
end
/-! ### the operators -/
def fEq (p q : D) : Option Va := if bas 8 p && bas 8 q then some (.im (.bl (eqb 8 p q))) else none
def fNe (p q : D) : Option Va := if bas 8 p && bas 8 q then some (.im (.bl (!eqb 8 p q))) else none
def rEqv (K : PySem.W.Frag) (neg : Bool) : R2 := fun x y H Q => ∃ al F p q, Sub F H ∧ bas 8 p = true ∧ bas 8 q = true ∧ Rdr K al F H p x ∧ Rdr K al F H q y ∧ Q (.bl (if neg then !eqb 8 p q else eqb 8 p q)) H
section
variable {X : Cx} {K : PySem.W.Frag}
theorem op_eqv (hu : X.A.units + 64 < cLine) : OpR X (compareOp .Eq) (rEqv X.K false) := by
  intro pins s σ H x y v u Q I rx ry h
  obtain ⟨al, F, p, q, hs, b1, b2, d1, d2, hq⟩ := h
  exact rcAt_D I hs 8 X.A (by omega) p q x y v u b1 b2 d1 d2 rx ry X.prog X.w X.xe _ ⟨.bl _, H, I, rfl, hq⟩
theorem op_nev (hu : X.A.units + 64 < cLine) : OpR X (compareOp .NotEq) (rEqv X.K true) := by
  intro pins s σ H x y v u Q I rx ry h
  obtain ⟨al, F, p, q, hs, b1, b2, d1, d2, hq⟩ := h
  exact rcNeAt_D I hs 8 X.A (by omega) p q x y v u b1 b2 d1 d2 rx ry X.prog X.w X.xe _ ⟨.bl _, H, I, rfl, hq⟩
theorem ops_eq : OpS K (rEqv K false) fEq := fun E F al H σ s x y p q va rel rx ry e Q hQ => by
  unfold fEq at e
  split at e
  · rename_i hb
    rw [Bool.and_eq_true] at hb
    cases e
    exact ⟨al, F, p, q, rel.sub, hb.1, hb.2, rx, ry, fin_d rel (.bl _) hQ⟩
  · cases e
theorem ops_ne : OpS K (rEqv K true) fNe := fun E F al H σ s x y p q va rel rx ry e Q hQ => by
  unfold fNe at e
  split at e
  · rename_i hb
    rw [Bool.and_eq_true] at hb
    cases e
    exact ⟨al, F, p, q, rel.sub, hb.1, hb.2, rx, ry, fin_d rel (.bl _) hQ⟩
  · cases e

/-! ### in -/
/-- what is told of an item by its value -/
noncomputable def eOf (us : List Value) (f : Nat → Bool) (u : Value) : Bool := @decide (∃ j, us[j]? = some u ∧ f j = true) (Classical.propDecidable _)
theorem eOf_eq {us : List Value} {f : Nat → Bool} (h : ∀ i j u, us[i]? = some u → us[j]? = some u → f i = f j) {i : Nat} {u : Value} (hi : us[i]? = some u) : eOf us f u = f i := by
  unfold eOf
  cases e : f i with
  | true => exact @decide_eq_true _ (Classical.propDecidable _) ⟨i, hi, e⟩
  | false =>
    refine @decide_eq_false _ (Classical.propDecidable _) fun ⟨j, hj, hf⟩ => ?_
    rw [h i j u hi hj, hf] at e
    cases e
theorem eOf_any {us : List Value} {f : Nat → Bool} (h : ∀ i j u, us[i]? = some u → us[j]? = some u → f i = f j) : us.any (eOf us f) = (List.range us.length).any f := by
  rw [Bool.eq_iff_iff, List.any_eq_true, List.any_eq_true]
  constructor
  · rintro ⟨u, hu, hf⟩
    obtain ⟨i, hi, e⟩ := List.getElem_of_mem hu
    have q : us[i]? = some u := by rw [List.getElem?_eq_getElem hi, e]
    rw [eOf_eq h q] at hf
    exact ⟨i, List.mem_range.mpr hi, hf⟩
  · rintro ⟨i, hi, hf⟩
    have hi := List.mem_range.mp hi
    refine ⟨us[i], List.getElem_mem _, ?_⟩
    rw [eOf_eq h (List.getElem?_eq_getElem hi)]
    exact hf
theorem range_any {f : D → Bool} : ∀ (xs : List D), (List.range xs.length).any (fun j => f (xs.getD j .non)) = xs.any f := fun xs => by
  rw [Bool.eq_iff_iff, List.any_eq_true, List.any_eq_true]
  constructor
  · rintro ⟨i, hi, hf⟩
    have hi := List.mem_range.mp hi
    rw [List.getD_eq_getElem?_getD, List.getElem?_eq_getElem hi] at hf
    exact ⟨_, List.getElem_mem hi, hf⟩
  · rintro ⟨x, hx, hf⟩
    obtain ⟨i, hi, e⟩ := List.getElem_of_mem hx
    refine ⟨i, List.mem_range.mpr hi, ?_⟩
    rw [List.getD_eq_getElem?_getD, List.getElem?_eq_getElem hi]
    show f xs[i] = true
    rw [e]; exact hf
/-- p in a list or a tuple -/
def inL (p : D) (xs : List D) : Bool := xs.any fun y => eqb 8 y p
def rInv (K : PySem.W.Frag) (neg : Bool) : R2 := fun x y H Q => ∃ al F p q xs, Sub F H ∧ bas 8 p = true ∧ xs.all (bas 8) = true ∧ (q = .lst xs ∨ q = .tup xs ∨ q = .tz xs) ∧ Rdr K al F H p x ∧ Rdr K al F H q y ∧ Q (.bl (if neg then !inL p xs else inL p xs)) H
section
variable {pins : List (Addr × Obj)} {σ : L2.St} {s : Shared} {al : List Addr} {F H : Hp}
theorem in_items (hu : X.A.units + 64 < cLine) (I : Inv X pins σ H s) (hs : Sub F H) {p : D} {x : V} {v : Value} {xs : List D} {vs : List V} {its : List Value} (bp : bas 8 p = true) (bx : xs.all (bas 8) = true) (rp : Rdr X.K al F H p x) (rx : RelV x v) (l : DatL X.K al F xs vs) (r : Vals vs its) :
    ∃ e : Value → Bool, (∀ y ∈ its, SeqAt.EqAt X.A.in1 s y v (e y)) ∧ its.any e = inL p xs := by
  have n1 := l.length
  have n2 := r.length
  have h : ∀ i j u, its[i]? = some u → its[j]? = some u → (fun j => eqb 8 (xs.getD j .non) p) i = (fun j => eqb 8 (xs.getD j .non) p) j := fun i j u hi hj => by
    have k1 : i < xs.length := by have := (List.getElem?_eq_some_iff.mp hi).1; omega
    have k2 : j < xs.length := by have := (List.getElem?_eq_some_iff.mp hj).1; omega
    obtain ⟨v1, f1, d1⟩ := l.getD (List.getElem?_eq_getElem k1)
    obtain ⟨v2, f2, d2⟩ := l.getD (List.getElem?_eq_getElem k2)
    obtain ⟨u1, q1, w1⟩ := r.get f1
    obtain ⟨u2, q2, w2⟩ := r.get f2
    rw [hi] at q1
    rw [hj] at q2
    cases q1; cases q2
    have e := w1.inj w2
    subst e
    have a1 := List.all_eq_true.mp bx _ (List.getElem_mem k1)
    have a2 := List.all_eq_true.mp bx _ (List.getElem_mem k2)
    have e2 := uniq hs 8 _ _ _ a1 a2 (d1.rdr a1) (d2.rdr a2)
    show eqb 8 (xs.getD i .non) p = eqb 8 (xs.getD j .non) p
    rw [List.getD_eq_getElem?_getD, List.getD_eq_getElem?_getD, List.getElem?_eq_getElem k1, List.getElem?_eq_getElem k2]
    show eqb 8 xs[i] p = eqb 8 xs[j] p
    rw [e2]
  refine ⟨eOf its fun j => eqb 8 (xs.getD j .non) p, fun y hy => ?_, ?_⟩
  · obtain ⟨i, hi, e⟩ := List.getElem_of_mem hy
    have q : its[i]? = some y := by rw [List.getElem?_eq_getElem hi, e]
    rw [eOf_eq h q]
    have k1 : i < xs.length := by omega
    obtain ⟨v1, f1, d1⟩ := l.getD (List.getElem?_eq_getElem k1)
    obtain ⟨u1, q1, w1⟩ := r.get f1
    rw [q] at q1
    cases q1
    have a1 := List.all_eq_true.mp bx _ (List.getElem_mem k1)
    rw [List.getD_eq_getElem?_getD, List.getElem?_eq_getElem k1]
    exact eqAt_D I hs 8 X.A.in1 (by show X.A.units + 1 + 8 < cLine; omega) _ _ _ _ _ _ a1 bp (d1.rdr a1) rp w1 rx
  · rw [eOf_any h, ← n2, ← n1]
    exact range_any (f := fun y => eqb 8 y p) xs
end
theorem op_inv (hu : X.A.units + 64 < cLine) : OpR X (compareOp .In) (rInv X.K false) := by
  intro pins s σ H x y v u Q I rx ry h
  obtain ⟨al, F, p, q, xs, hs, b1, b2, hq, d1, d2, hQ⟩ := h
  rcases hq with rfl | rfl | rfl
  · obtain ⟨a, vs, rfl, h1, l1, z⟩ := d2.lst hs
    cases ry
    obtain ⟨its, r, pl, hz⟩ := I.list (.inl (.inl h1))
    obtain ⟨e, he, ea⟩ := in_items hu I hs b1 b2 d1 rx l1 r
    refine SeqAt.in_listAt e pl.isList (fun w hw => he w (by simpa using hw)) ⟨.bl _, H, I, rfl, ?_⟩
    rw [show its.toArray.any e = its.any e by simp, ea]
    exact hQ
  · obtain ⟨a, vs, rfl, h1, l1, z⟩ := d2.tup hs
    cases ry
    obtain ⟨its, r, pl, hz⟩ := I.tuple (.inl (.inl h1))
    obtain ⟨e, he, ea⟩ := in_items hu I hs b1 b2 d1 rx l1 r
    refine SeqAt.in_tupleAt e pl (fun w hw => he w (by simpa using hw)) ⟨.bl _, H, I, rfl, ?_⟩
    rw [show its.toArray.any e = its.any e by simp, ea]
    exact hQ
  · obtain ⟨a, vs, rfl, h1, l1, z⟩ := d2.tz hs
    cases ry
    obtain ⟨its, r, pl, hz⟩ := I.tuple h1
    obtain ⟨e, he, ea⟩ := in_items hu I hs b1 b2 d1 rx l1 r
    refine SeqAt.in_tupleAt e pl (fun w hw => he w (by simpa using hw)) ⟨.bl _, H, I, rfl, ?_⟩
    rw [show its.toArray.any e = its.any e by simp, ea]
    exact hQ
theorem op_notInv (hu : X.A.units + 64 < cLine) : OpR X (compareOp .NotIn) (rInv X.K true) := by
  intro pins s σ H x y v u Q I rx ry h
  obtain ⟨al, F, p, q, xs, hs, b1, b2, hq, d1, d2, hQ⟩ := h
  rcases hq with rfl | rfl | rfl
  · obtain ⟨a, vs, rfl, h1, l1, z⟩ := d2.lst hs
    cases ry
    obtain ⟨its, r, pl, hz⟩ := I.list (.inl (.inl h1))
    obtain ⟨e, he, ea⟩ := in_items hu I hs b1 b2 d1 rx l1 r
    refine SeqAt.notIn_listAt e pl.isList (fun w hw => he w (by simpa using hw)) ⟨.bl _, H, I, rfl, ?_⟩
    rw [show its.toArray.any e = its.any e by simp, ea]
    exact hQ
  · obtain ⟨a, vs, rfl, h1, l1, z⟩ := d2.tup hs
    cases ry
    obtain ⟨its, r, pl, hz⟩ := I.tuple (.inl (.inl h1))
    obtain ⟨e, he, ea⟩ := in_items hu I hs b1 b2 d1 rx l1 r
    refine SeqAt.notIn_tupleAt e pl (fun w hw => he w (by simpa using hw)) ⟨.bl _, H, I, rfl, ?_⟩
    rw [show its.toArray.any e = its.any e by simp, ea]
    exact hQ
  · obtain ⟨a, vs, rfl, h1, l1, z⟩ := d2.tz hs
    cases ry
    obtain ⟨its, r, pl, hz⟩ := I.tuple h1
    obtain ⟨e, he, ea⟩ := in_items hu I hs b1 b2 d1 rx l1 r
    refine SeqAt.notIn_tupleAt e pl (fun w hw => he w (by simpa using hw)) ⟨.bl _, H, I, rfl, ?_⟩
    rw [show its.toArray.any e = its.any e by simp, ea]
    exact hQ
/-- a text in a text -/
def subS (x y : Str) : Bool := !(Builtin.Str.occurrences y x 0 y.length 1).isEmpty
/-- a key's datum -/
def D.key : D → Option Key
  | .int i => some (.inl i)
  | .str x => some (.inr x)
  | _ => none
def keysOf : List D → Option (List Key)
  | [] => some []
  | d :: ds => match d.key, keysOf ds with
    | some k, some ks => some (k :: ks)
    | _, _ => none
/-- perhaps a datum -/
def DOp (K : PySem.W.Frag) (al : List Addr) (F : Hp) : Option D → Option V → Prop
  | some d, some v => Dat K al F d v
  | none, none => True
  | _, _ => False
/-- what a dict has at a key -/
def look {κ : Type} [DecidableEq κ] (kvs : List (κ × D)) (k : κ) : Option D := (kvs.find? fun kv => decide (kv.1 = k)).map (·.2)
theorem look_ok {al : List Addr} {F : Hp} : ∀ {ds : List (Key × D)} {vs : List (Key × V)} (k : Key), DatK K al F ds vs → DOp K al F (look ds k) (valV vs k)
  | _, _, k, .nil => True.intro
  | (k', d) :: ds, _, k, .cons (v := v) (vs := vs) h t => by
    by_cases e : k' = k
    · have e1 : look ((k', d) :: ds) k = some d := by simp [look, List.find?_cons, e]
      have e2 : valV ((k', v) :: vs) k = some v := by simp [valV, List.find?_cons, e]
      rw [e1, e2]
      exact h
    · have e1 : look ((k', d) :: ds) k = look ds k := by simp [look, List.find?_cons, e]
      have e2 : valV ((k', v) :: vs) k = valV vs k := by simp [valV, List.find?_cons, e]
      rw [e1, e2]
      exact look_ok k t
theorem lookT_ok {al : List Addr} {F : Hp} : ∀ {ds : List (List Key × D)} {vs : List (List Key × V)} (k : List Key), DatT K al F ds vs → DOp K al F (look ds k) (valV vs k)
  | _, _, k, .nil => True.intro
  | (k', d) :: ds, _, k, .cons (v := v) (vs := vs) h t => by
    by_cases e : k' = k
    · have e1 : look ((k', d) :: ds) k = some d := by simp [look, List.find?_cons, e]
      have e2 : valV ((k', v) :: vs) k = some v := by simp [valV, List.find?_cons, e]
      rw [e1, e2]
      exact h
    · have e1 : look ((k', d) :: ds) k = look ds k := by simp [look, List.find?_cons, e]
      have e2 : valV ((k', v) :: vs) k = valV vs k := by simp [valV, List.find?_cons, e]
      rw [e1, e2]
      exact lookT_ok k t
theorem key_ok {al : List Addr} {F H : Hp} {d : D} {k : Key} {w : V} (h : d.key = some k) (r : Rdr K al F H d w) : w = kV k := by
  cases d <;> cases h
  · exact r.int
  · exact r.str
theorem keysOf_ok {al : List Addr} {F H : Hp} : ∀ {ds : List D} {ks : List Key} {vs : List V}, keysOf ds = some ks → DatL K al F ds vs → vs = ks.map kV
  | [], _, _, h, .nil => by cases h; rfl
  | d :: ds, _, _, h, .cons (v := v) r t => by
    unfold keysOf at h
    split at h
    · rename_i k ks hk hks
      cases h
      rw [keysOf_ok (H := H) hks t, key_ok (H := H) hk (.inl ⟨r, fun j e => by subst e; cases hk⟩)]
      rfl
    · cases h
/-- the key's place in a dict of either kind -/
def dictAt (c p : D) : Option (Option D) := match c with
  | .dk kvs => p.key.map fun k => look kvs k
  | .dt kvs => match p with
    | .tup ds => (keysOf ds).map fun ks => look kvs ks
    | _ => none
  | _ => none
theorem dictAt_ok {al : List Addr} {F H : Hp} (hs : Sub F H) {c p : D} {x y : V} {o : Option D} (rp : Rdr K al F H p x) (rc : Rdr K al F H c y) (h : dictAt c p = some o) :
    ∃ a, y = .ref a ∧ ∃ ov, DGet H a x ov ∧ DOp K al F o ov := by
  cases c with
  | dk kvs =>
    obtain ⟨a, vs, e, h1, h2⟩ := rc.dk hs
    cases hk : p.key with
    | none => simp only [dictAt, hk] at h; cases h
    | some k =>
      simp only [dictAt, hk] at h
      cases h
      exact ⟨a, e, _, .inl ⟨vs, k, h1, key_ok hk rp, rfl⟩, look_ok k h2⟩
  | dt kvs =>
    cases p with
    | tup ds =>
      obtain ⟨a, vs, e, h1, h2⟩ := rc.dt hs
      obtain ⟨b, us, e2, h3, h4, _⟩ := rp.tup hs
      cases hk : keysOf ds with
      | none => simp only [dictAt, hk] at h; cases h
      | some ks =>
        simp only [dictAt, hk] at h
        cases h
        have e3 := keysOf_ok (H := H) hk h4
        rw [e3] at h3
        exact ⟨a, e, _, .inr ⟨vs, ks, b, h1, e2, h3, rfl⟩, lookT_ok ks h2⟩
    | _ => cases h
  | _ => cases h
end
end VI
end
section
set_option Elab.async false
set_option linter.all false
set_option maxRecDepth 100000
set_option maxHeartbeats 2000000
/-! V6: arithmetic, order, in, is; truth, tests, and | or | not | if, chains; displays. -/
namespace VI
open PySem PySem.Spec L2

section
variable {X : Cx} {W : Wx} {K : PySem.W.Frag}
/-! ### arithmetic -/
def fI (C : Int → Int → Bool) (g : Int → Int → Int) : D → D → Option Va
  | .int i, .int j => if C i j then some (.im (.int (g i j))) else none
  | _, _ => none
theorem ops_i {C : Int → Int → Prop} {c : Int → Int → Bool} {g : Int → Int → Int} (hc : ∀ i j, c i j = true → C i j) : OpS K (rI C fun i j => .int (g i j)) (fI c g) := fun E F al H σ s x y p q va rel rx ry e Q hQ => by
  unfold fI at e
  split at e
  · split at e
    · rename_i h
      cases e
      cases rx.int; cases ry.int
      exact ⟨_, _, rfl, rfl, hc _ _ h, fin_d rel (.int _) hQ⟩
    · cases e
  · cases e
theorem ops_i0 {g : Int → Int → Int} : OpS K (rI0 fun i j => .int (g i j)) (fI (fun _ _ => true) g) := fun E F al H σ s x y p q va rel rx ry e Q hQ => by
  unfold fI at e
  split at e
  · split at e
    · cases e
      cases rx.int; cases ry.int
      exact ⟨_, _, rfl, rfl, fin_d rel (.int _) hQ⟩
    · cases e
  · cases e
abbrev fSub : D → D → Option Va := fI (fun _ _ => true) fun i j => i - j
def okDiv (i j : Int) : Bool := decide (0 < j) && decide (j < 1073741824)
def okMod (i j : Int) : Bool := decide (0 < j)
def okPow (i j : Int) : Bool := decide (0 ≤ j) && (decide (j ≤ 1000000) && decide (i.natAbs < 18446744073709551616))
def okMul (i j : Int) : Bool := (decide (-18446744073709551616 < i) && decide (i < 18446744073709551616)) || (decide (-18446744073709551616 < j) && decide (j < 18446744073709551616))
abbrev fDiv : D → D → Option Va := fI okDiv fun i j => i / j
abbrev fMod : D → D → Option Va := fI okMod fun i j => i % j
abbrev fPow : D → D → Option Va := fI okPow fun i j => i ^ j.toNat
theorem ops_div : OpS K (rI CDiv fun i j => .int (i / j)) fDiv := ops_i fun i j h => by
  simp only [okDiv, Bool.and_eq_true, decide_eq_true_eq] at h; exact h
theorem ops_mod : OpS K (rI (fun _ j => 0 < j) fun i j => .int (i % j)) fMod := ops_i fun i j h => by
  simpa [okMod] using h
theorem ops_pow : OpS K (rI CPow fun i j => .int (i ^ j.toNat)) fPow := ops_i fun i j h => by
  simp only [okPow, Bool.and_eq_true, decide_eq_true_eq] at h; exact ⟨h.1, h.2.1, by have := h.2.2; omega⟩
/-- int * int, list * int, text * int -/
def fMul : D → D → Option Va
  | .int i, .int j => if okMul i j then some (.im (.int (i * j))) else none
  | .lst xs, .int j => if decide (0 ≤ j) && (decide (j < 9223372036854775808) && decide (xs.length * j.toNat ≤ sizeLine)) then some (.fr (.lst (List.replicate j.toNat xs).flatten)) else none
  | .str x, .int j => if decide (0 ≤ j) && (decide (j < 1073741824) && decide (x.length * j.toNat ≤ sizeLine)) then some (.im (.str ⟨(List.replicate j.toNat x.cps.toList).flatten.toArray⟩)) else none
  | _, _ => none
def rMulS : R2 := fun x y H Q => ∃ (z : Str) (k : Int), x = .str z ∧ y = .int k ∧ 0 ≤ k ∧ k < 1073741824 ∧ z.length * k.toNat ≤ sizeLine ∧ Q (.str ⟨(List.replicate k.toNat z.cps.toList).flatten.toArray⟩) H
theorem foldl_app (l : List (Array Nat)) : ∀ a : Array Nat, l.foldl (· ++ ·) a = a ++ (l.map Array.toList).flatten.toArray := by
  induction l with
  | nil => intro a; simp
  | cons b t ih => intro a; rw [List.foldl_cons, ih]; apply Array.ext'; simp
theorem op_mulS : OpR X (binaryOp .Mult) rMulS := by
  intro pins s σ H x y v u Q I rx ry h
  obtain ⟨z, k, rfl, rfl, h0, h1, h2, q⟩ := h
  obtain ⟨t, rfl⟩ := rx
  obtain ⟨t', rfl⟩ := ry
  have hsl : sizeLine = 16777216 := sizeLine_eq
  refine PySem.P.mul_str ?_ (fun g1 g2 => ?_) (fun g1 g2 => ?_) ?_
  · have a : ¬ k < -(2 ^ 63 : Int) := by omega
    have b : ¬ k ≥ 2 ^ 63 := by omega
    rw [decide_eq_false a, decide_eq_false b]; rfl
  · have g3 : 1 ≤ k := by omega
    have g4 : z.length ≤ 16777216 := by
      have : z.length * 1 ≤ z.length * k.toNat := Nat.mul_le_mul_left _ (by omega)
      omega
    have g5 : (16777216 : Int) ≤ (2 ^ 63 - 1) / k := by
      rw [Int.le_ediv_iff_mul_le (by omega)]
      omega
    omega
  · show decide (z.length * k.toNat > sizeLine) = false
    exact decide_eq_false (by omega)
  · by_cases h3 : k < 1
    · rw [if_pos h3]
      have : k = 0 := by omega
      subst this
      refine ⟨by decide, ?_⟩
      exact ⟨.str Str.empty, H, I.tok _, ⟨_, rfl⟩, by simpa [Str.empty] using q⟩
    · rw [if_neg h3]
      by_cases h4 : (k == 1 || z.length == 0) = true
      · rw [if_pos h4]
        have e : (⟨(List.replicate k.toNat z.cps.toList).flatten.toArray⟩ : Str) = z := by
          rcases Bool.or_eq_true_iff.mp h4 with h5 | h5
          · have : k = 1 := by simpa using h5
            subst this
            simp
          · have : z.cps.size = 0 := by simpa [Str.length] using h5
            have e2 : z.cps = #[] := Array.eq_empty_of_size_eq_zero this
            obtain ⟨c⟩ := z
            simp only at e2
            subst e2
            simp
        rw [e] at q
        exact ⟨.str z, H, I, ⟨_, rfl⟩, q⟩
      · rw [if_neg h4]
        refine ⟨?_, ?_⟩
        · rw [foldl_app]
          show ((#[] ++ _ : Array Nat)).size ≤ sizeLine
          have e : (List.map Array.toList (List.replicate k.toNat z.cps)).flatten.length = k.toNat * z.cps.size := by
            rw [List.map_replicate, List.length_flatten, List.map_replicate, List.sum_replicate_nat]
            simp
          simp only [Array.size_append, List.size_toArray, List.length_nil, e]
          have e3 : k.toNat * z.cps.size = z.length * k.toNat := Nat.mul_comm _ _
          have e4 : (#[] : Array Nat).size = 0 := rfl
          omega
        · refine ⟨.str _, H, I.tok _, ⟨_, rfl⟩, ?_⟩
          rw [foldl_app]
          simpa using q
def rMulX : R2 := fun x y H Q => (rI CMul fun i j => .int (i * j)) x y H Q ∨ (fun x y H Q => rRep x y H Q ∨ rMulS x y H Q) x y H Q
theorem op_mulX : OpR X (binaryOp .Mult) rMulX := OpR.or op_mul (OpR.or op_rep op_mulS)
theorem rep_dat {al : List Addr} {F : Hp} {ds : List D} {vs : List V} (h : DatL K al F ds vs) : ∀ n : Nat, DatL K al F (List.replicate n ds).flatten (List.replicate n vs).flatten
  | 0 => .nil
  | n + 1 => by
    rw [List.replicate_succ, List.replicate_succ, List.flatten_cons, List.flatten_cons]
    exact h.app (rep_dat h n)
theorem rep_len {α : Type} (n : Nat) (xs : List α) : (List.replicate n xs).flatten.length = xs.length * n := by
  rw [List.length_flatten, List.map_replicate, List.sum_replicate_nat, Nat.mul_comm]
theorem ops_mul : OpS K rMulX fMul := fun E F al H σ s x y p q va rel rx ry e Q hQ => by
  unfold fMul at e
  split at e
  · split at e
    · rename_i h
      cases e
      cases rx.int; cases ry.int
      simp only [okMul, Bool.or_eq_true, Bool.and_eq_true, decide_eq_true_eq] at h
      exact .inl ⟨_, _, rfl, rfl, by unfold CMul; omega, fin_d rel (.int _) hQ⟩
    · cases e
  · split at e
    · rename_i xs j h
      cases e
      simp only [Bool.and_eq_true, decide_eq_true_eq] at h
      obtain ⟨a, vs, rfl, h1, l1, z1⟩ := rx.lst rel.sub
      cases ry.int
      have e1 := l1.length
      refine .inr (.inl ⟨a, j, vs, rfl, rfl, h1, by omega, by omega, by rw [← e1]; exact h.2.2, fin_l rel (rep_dat l1 _) (by rw [rep_len]; exact h.2.2) hQ⟩)
    · cases e
  · split at e
    · rename_i z j h
      cases e
      simp only [Bool.and_eq_true, decide_eq_true_eq] at h
      cases rx.str
      cases ry.int
      exact .inr (.inr ⟨z, j, rfl, rfl, h.1, h.2.1, h.2.2, fin_d rel (.str _) hQ⟩)
    · cases e
  · cases e

/-! ### order -/
def ltS (x y : Str) : Bool := decide (x.cps.toList < y.cps.toList)
def fLt : D → D → Option Va
  | .int i, .int j => some (.im (.bl (decide (i < j))))
  | .str x, .str y => some (.im (.bl (ltS x y)))
  | _, _ => none
def fGt : D → D → Option Va
  | .int i, .int j => some (.im (.bl (decide (j < i))))
  | .str x, .str y => some (.im (.bl (ltS y x)))
  | _, _ => none
def fLe : D → D → Option Va
  | .int i, .int j => some (.im (.bl (decide (i ≤ j))))
  | .str x, .str y => some (.im (.bl (!ltS y x)))
  | _, _ => none
def fGe : D → D → Option Va
  | .int i, .int j => some (.im (.bl (decide (j ≤ i))))
  | .str x, .str y => some (.im (.bl (!ltS x y)))
  | _, _ => none
def rOrd (f : Int → Int → Bool) (g : Str → Str → Bool) : R2 := fun x y H Q => (rI0 fun i j => .bl (f i j)) x y H Q ∨ (fun x y H Q => ∃ i j, x = .str i ∧ y = .str j ∧ Q (.bl (g i j)) H) x y H Q
theorem op_ltX : OpR X (compareOp .Lt) (rOrd (fun i j => decide (i < j)) ltS) := OpR.or op_lt op_lt_str
theorem op_gtX : OpR X (compareOp .Gt) (rOrd (fun i j => decide (j < i)) fun x y => ltS y x) := OpR.or op_gt op_gt_str
theorem op_leX : OpR X (compareOp .LtE) (rOrd (fun i j => decide (i ≤ j)) fun x y => !ltS y x) := OpR.or op_le op_le_str
theorem op_geX : OpR X (compareOp .GtE) (rOrd (fun i j => decide (j ≤ i)) fun x y => !ltS x y) := OpR.or op_ge op_ge_str
theorem ops_lt : OpS K (rOrd (fun i j => decide (i < j)) ltS) fLt := fun E F al H σ s x y p q va rel rx ry e Q hQ => by
  unfold fLt at e
  split at e
  · cases e; cases rx.int; cases ry.int; exact .inl ⟨_, _, rfl, rfl, fin_d rel (.bl _) hQ⟩
  · cases e; cases rx.str; cases ry.str; exact .inr ⟨_, _, rfl, rfl, fin_d rel (.bl _) hQ⟩
  · cases e
theorem ops_gt : OpS K (rOrd (fun i j => decide (j < i)) fun x y => ltS y x) fGt := fun E F al H σ s x y p q va rel rx ry e Q hQ => by
  unfold fGt at e
  split at e
  · cases e; cases rx.int; cases ry.int; exact .inl ⟨_, _, rfl, rfl, fin_d rel (.bl _) hQ⟩
  · cases e; cases rx.str; cases ry.str; exact .inr ⟨_, _, rfl, rfl, fin_d rel (.bl _) hQ⟩
  · cases e
theorem ops_le : OpS K (rOrd (fun i j => decide (i ≤ j)) fun x y => !ltS y x) fLe := fun E F al H σ s x y p q va rel rx ry e Q hQ => by
  unfold fLe at e
  split at e
  · cases e; cases rx.int; cases ry.int; exact .inl ⟨_, _, rfl, rfl, fin_d rel (.bl _) hQ⟩
  · cases e; cases rx.str; cases ry.str; exact .inr ⟨_, _, rfl, rfl, fin_d rel (.bl _) hQ⟩
  · cases e
theorem ops_ge : OpS K (rOrd (fun i j => decide (j ≤ i)) fun x y => !ltS x y) fGe := fun E F al H σ s x y p q va rel rx ry e Q hQ => by
  unfold fGe at e
  split at e
  · cases e; cases rx.int; cases ry.int; exact .inl ⟨_, _, rfl, rfl, fin_d rel (.bl _) hQ⟩
  · cases e; cases rx.str; cases ry.str; exact .inr ⟨_, _, rfl, rfl, fin_d rel (.bl _) hQ⟩
  · cases e
/-! ### is None -/
def isNon : D → Bool
  | .non => true
  | _ => false
def fIs : D → D → Option Va
  | p, .non => some (.im (.bl (isNon p)))
  | _, _ => none
def fIsnt : D → D → Option Va
  | p, .non => some (.im (.bl (!isNon p)))
  | _, _ => none
theorem isNon_ok {al : List Addr} {F H : Hp} {p : D} {x : V} (h : Rdr K al F H p x) : decide (x = .non) = isNon p := by
  rcases h with ⟨d, _⟩ | ⟨a, ho, o, e, h1, h2, h3⟩
  · cases d <;> first | rfl | exact decide_eq_false (fun z => by cases z)
  · subst e
    cases o <;> cases h3 <;> exact decide_eq_false (fun z => by cases z)
theorem ops_is : OpS K (fun x y H Q => y = .non ∧ Q (.bl (decide (x = .non))) H) fIs := fun E F al H σ s x y p q va rel rx ry e Q hQ => by
  unfold fIs at e
  split at e
  · cases e
    exact ⟨ry.non, by rw [isNon_ok rx]; exact fin_d rel (.bl _) hQ⟩
  · cases e
theorem ops_isnt : OpS K (fun x y H Q => y = .non ∧ Q (.bl (!decide (x = .non))) H) fIsnt := fun E F al H σ s x y p q va rel rx ry e Q hQ => by
  unfold fIsnt at e
  split at e
  · cases e
    exact ⟨ry.non, by rw [isNon_ok rx]; exact fin_d rel (.bl _) hQ⟩
  · cases e
/-! ### in -/
def inD (p c : D) : Option Bool := match c with
  | .lst xs => if bas 8 p && xs.all (bas 8) then some (inL p xs) else none
  | .tup xs => if bas 8 p && xs.all (bas 8) then some (inL p xs) else none
  | .tz xs => if bas 8 p && xs.all (bas 8) then some (inL p xs) else none
  | .str y => (match p with
    | .str x => some (subS x y)
    | _ => none)
  | c => (dictAt c p).map Option.isSome
def fIn (p c : D) : Option Va := (inD p c).map fun b => .im (.bl b)
def fNotIn (p c : D) : Option Va := (inD p c).map fun b => .im (.bl (!b))
def rDin (neg : Bool) : R2 := fun x y H Q => ∃ a o, y = .ref a ∧ DGet H a x o ∧ Q (.bl (if neg then !o.isSome else o.isSome)) H
def rInX (K : PySem.W.Frag) (neg : Bool) : R2 := fun x y H Q => rInv K neg x y H Q ∨ (fun x y H Q => (fun x y H Q => ∃ i j, x = .str i ∧ y = .str j ∧ Q (.bl (if neg then !subS i j else subS i j)) H) x y H Q ∨ rDin neg x y H Q) x y H Q
theorem op_din (hu : X.A.units + 1 < cLine) : OpR X (compareOp .In) (rDin false) := by
  intro pins s σ H x y v u Q I rx ry h
  obtain ⟨a, o, rfl, g, q⟩ := h
  cases ry
  exact d_in hu I g rx fun s' I' => ⟨.bl _, H, I', rfl, q⟩
theorem op_dnotin (hu : X.A.units + 1 < cLine) : OpR X (compareOp .NotIn) (rDin true) := by
  intro pins s σ H x y v u Q I rx ry h
  obtain ⟨a, o, rfl, g, q⟩ := h
  cases ry
  exact d_notIn hu I g rx fun s' I' => ⟨.bl _, H, I', rfl, q⟩
theorem op_inX (hu : X.A.units + 64 < cLine) : OpR X (compareOp .In) (rInX X.K false) := OpR.or (op_inv hu) (OpR.or op_in_str (op_din (by omega)))
theorem op_notInX (hu : X.A.units + 64 < cLine) : OpR X (compareOp .NotIn) (rInX X.K true) := OpR.or (op_notInv hu) (OpR.or op_notin_str (op_dnotin (by omega)))
theorem inX_ok (neg : Bool) {E : Ent} {F H : Hp} {al : List Addr} {σ : L2.St} {s : S} {x y : V} {p c : D} {b : Bool} (rel : Rel K E F al H σ s) (rx : Rdr K al F H p x) (ry : Rdr K al F H c y) (h : inD p c = some b) {Q : VK}
    (hQ : ∀ w F' al' H', Rel K E F' al' H' σ s → Stp σ s s F al H F' al' H' → VaR K E H al' F' H' σ s w (.im (.bl (if neg then !b else b))) → Q w H') : rInX K neg x y H Q := by
  unfold inD at h
  split at h
  · split at h
    · rename_i g
      rw [Bool.and_eq_true] at g
      cases h
      exact .inl ⟨al, F, p, _, _, rel.sub, g.1, g.2, .inl rfl, rx, ry, fin_d rel (.bl _) hQ⟩
    · cases h
  · split at h
    · rename_i g
      rw [Bool.and_eq_true] at g
      cases h
      exact .inl ⟨al, F, p, _, _, rel.sub, g.1, g.2, .inr (.inl rfl), rx, ry, fin_d rel (.bl _) hQ⟩
    · cases h
  · split at h
    · rename_i g
      rw [Bool.and_eq_true] at g
      cases h
      exact .inl ⟨al, F, p, _, _, rel.sub, g.1, g.2, .inr (.inr rfl), rx, ry, fin_d rel (.bl _) hQ⟩
    · cases h
  · split at h
    · cases h
      exact .inr (.inl ⟨_, _, rx.str, ry.str, fin_d rel (.bl _) hQ⟩)
    · cases h
  · cases hd : dictAt c p with
    | none => rw [hd] at h; cases h
    | some o =>
      rw [hd] at h
      cases h
      obtain ⟨a, e, ov, g, q⟩ := dictAt_ok rel.sub rx ry hd
      have eo : o.isSome = ov.isSome := by
        cases o <;> cases ov <;> first | rfl | exact q.elim
      refine .inr (.inr ⟨a, ov, e, g, ?_⟩)
      rw [← eo]
      exact fin_d rel (.bl _) hQ
theorem ops_in : OpS K (rInX K false) fIn := fun E F al H σ s x y p q va rel rx ry e Q hQ => by
  unfold fIn at e
  cases h : inD p q with
  | none => rw [h] at e; cases e
  | some b => rw [h] at e; cases e; exact inX_ok false rel rx ry h hQ
theorem ops_notin : OpS K (rInX K true) fNotIn := fun E F al H σ s x y p q va rel rx ry e Q hQ => by
  unfold fNotIn at e
  cases h : inD p q with
  | none => rw [h] at e; cases e
  | some b => rw [h] at e; cases e; exact inX_ok true rel rx ry h hQ
end
end VI
end
section
set_option Elab.async false
set_option linter.all false
set_option maxRecDepth 100000
set_option maxHeartbeats 2000000
/-! V7: truth, tests, and | or | not | if, chains; displays, subscripts, slices. -/
namespace VI
open PySem PySem.Spec L2

section
variable {X : Cx} {W : Wx} {K : PySem.W.Frag}
/-! ### truth -/
def tru : D → Option Bool
  | .non => some false
  | .bl b => some b
  | .int i => some (i != 0)
  | .str x => if x.length ≤ sizeLine then some ((x.length : Int) != 0) else none
  | .lst xs => some (!xs.isEmpty)
  | .tup xs => some (!xs.isEmpty)
  | .lz xs => some (!xs.isEmpty)
  | .tz xs => some (!xs.isEmpty)
  | _ => none
theorem DatL.empty {al : List Addr} {F : Hp} {ds : List D} {vs : List V} (h : DatL K al F ds vs) : vs.isEmpty = ds.isEmpty := by cases h <;> rfl
theorem tru_okD {al : List Addr} {F H : Hp} {p : D} {x : V} {b : Bool} (hs : Sub F H) (r : Rdr K al F H p x) (h : tru p = some b) : TruV K x H b := by
  unfold tru at h
  split at h
  · cases h; cases r.non; rfl
  · cases h; cases r.bl; rfl
  · cases h; cases r.int; rfl
  · split at h
    · rename_i hz
      cases h; cases r.str; exact ⟨hz, rfl⟩
    · cases h
  · cases h
    obtain ⟨a, vs, rfl, h1, l1, _⟩ := r.lst hs
    exact .inl ⟨vs, .inl (.inl h1), by rw [l1.empty]⟩
  · cases h
    obtain ⟨a, vs, rfl, h1, l1, _⟩ := r.tup hs
    exact .inr (.inl ⟨vs, .inl (.inl h1), by rw [l1.empty]⟩)
  · cases h
    obtain ⟨a, vs, rfl, h1, l1, _⟩ := r.lz hs
    exact .inl ⟨vs, h1, by rw [l1.empty]⟩
  · cases h
    obtain ⟨a, vs, rfl, h1, l1, _⟩ := r.tz hs
    exact .inr (.inl ⟨vs, h1, by rw [l1.empty]⟩)
  · cases h
def truOf (v : Va) : M Bool := fun s => match (rd v s).bind tru with
  | some b => .ok b s
  | none => .no
def evT (m : M Va) : M Bool := m >>= truOf
theorem truOf_ok {E : Ent} {Hs F H : Hp} {al : List Addr} {σ : L2.St} {s s1 : S} {w : V} {va : Va} {b : Bool} (rel : Rel K E F al H σ s) (v : VaR K E Hs al F H σ s w va) (h : truOf va s = .ok b s1) : s1 = s ∧ TruV K w H b := by
  unfold truOf at h
  cases hr : rd va s with
  | none => rw [hr] at h; cases h
  | some p =>
    rw [hr] at h
    cases ht : tru p with
    | none => simp only [Option.bind_some, ht] at h; cases h
    | some c =>
      simp only [Option.bind_some, ht] at h
      cases h
      exact ⟨rfl, tru_okD rel.sub (rd_ok rel v hr) ht⟩
theorem truOf_nex {va : Va} {s s1 : S} {x : Xc} : truOf va s ≠ .ex x s1 := fun h => by
  unfold truOf at h
  split at h <;> cases h
theorem good_evT {te : TE} {m : M Va} (g : GoodE K W te m) : GoodT K W (fun σ H Q => te σ H fun x H' => ∃ k, TruV K x H' k ∧ Q k H') (evT m) := fun E F al H σ s rel => by
  refine Sat.bind (u := fun x H' Q => ∃ k, TruV K x H' k ∧ Q k H') BR.low (g E F al H σ s rel) fun va s1 w1 F1 al1 H1 _ rel1 st1 v1 => ?_
  cases ht : truOf va s1 with
  | no => exact True.intro
  | ex x s2 => exact (truOf_nex ht).elim
  | ok b s2 =>
    obtain ⟨rfl, t⟩ := truOf_ok rel1 v1 ht
    exact fun Q hQ => ⟨b, t, hQ b F1 al1 H1 rel1 .refl rfl⟩
theorem st_val {a : Expr} {ev : M Va} (h : SE X K W a th ev) (he : ∀ whole, isTrue a X.env whole = (do let v ← whole; standAt a.pos; holding [v] (truthy v)) := by intro _; rfl) : ST X K W a (fun σ H Q => th σ H fun x H' => ∃ k, TruV K x H' k ∧ Q k H') (evT ev) := by
  obtain ⟨rfl, p, g⟩ := h
  exact ⟨rfl, pt_truth p he, good_evT g⟩
theorem SW.st {e : Expr} {ev : M Bool} (h : SW X K W e th ev) : ST X K W e th ev := by
  obtain ⟨rfl, p, g⟩ := h
  exact ⟨rfl, p.pt, g⟩
def mNot (m : M Bool) : M Bool := m >>= fun b => pure (!b)
def mAnd (a b : M Bool) : M Bool := a >>= fun x => match x with
  | true => b
  | false => pure false
def mOr (a b : M Bool) : M Bool := a >>= fun x => match x with
  | true => pure true
  | false => b
theorem st_not {a : Expr} {ea : M Bool} {pos : Pos} (ha : ST X K W a tha ea) : ST X K W (.UnaryOp .Not a pos) (tNot tha) (mNot ea) := by
  obtain ⟨rfl, p, g⟩ := ha
  refine ⟨rfl, pt_not p, fun E F al H σ s rel => ?_⟩
  refine Sat.bind (u := fun c H1 Q => Q (!c) H1) BR.low (g E F al H σ s rel) fun b s1 w1 F1 al1 H1 _ rel1 st1 v1 => ?_
  exact fun Q hQ => hQ _ F1 al1 H1 rel1 .refl (by rw [v1])
theorem sw_and1 {a : Expr} {ea : M Bool} {pos : Pos} (ha : ST X K W a tha ea) : SW X K W (.BoolOp .And [a] pos) tha ea := by
  obtain ⟨rfl, p, g⟩ := ha
  exact ⟨rfl, pw_and1 p, g⟩
theorem sw_or1 {a : Expr} {ea : M Bool} {pos : Pos} (ha : ST X K W a tha ea) : SW X K W (.BoolOp .Or [a] pos) tha ea := by
  obtain ⟨rfl, p, g⟩ := ha
  exact ⟨rfl, pw_or1 p, g⟩
theorem sw_and {a b : Expr} {rest : List Expr} {ea eb : M Bool} {pos : Pos} (ha : ST X K W a tha ea) (hb : SW X K W (.BoolOp .And (b :: rest) pos) thb eb) : SW X K W (.BoolOp .And (a :: b :: rest) pos) (tAnd tha thb) (mAnd ea eb) := by
  obtain ⟨rfl, p, g⟩ := ha
  obtain ⟨_, q, k⟩ := hb
  refine ⟨rfl, pw_and p q, fun E F al H σ s rel => ?_⟩
  refine Sat.bind (u := fun c H1 Q => if c = true then thb σ H1 Q else Q false H1) BR.low (g E F al H σ s rel) fun b s1 w1 F1 al1 H1 _ rel1 st1 v1 => ?_
  cases v1
  cases b with
  | true => exact (k E F1 al1 H1 σ s1 rel1).imp fun Q z => iteT z
  | false => exact fun Q hQ => iteF (hQ _ F1 al1 H1 rel1 .refl rfl)
theorem sw_or {a b : Expr} {rest : List Expr} {ea eb : M Bool} {pos : Pos} (ha : ST X K W a tha ea) (hb : SW X K W (.BoolOp .Or (b :: rest) pos) thb eb) : SW X K W (.BoolOp .Or (a :: b :: rest) pos) (tOr tha thb) (mOr ea eb) := by
  obtain ⟨rfl, p, g⟩ := ha
  obtain ⟨_, q, k⟩ := hb
  refine ⟨rfl, pw_or p q, fun E F al H σ s rel => ?_⟩
  refine Sat.bind (u := fun c H1 Q => if c = true then Q true H1 else thb σ H1 Q) BR.low (g E F al H σ s rel) fun b s1 w1 F1 al1 H1 _ rel1 st1 v1 => ?_
  cases v1
  cases b with
  | false => exact (k E F1 al1 H1 σ s1 rel1).imp fun Q z => iteF z
  | true => exact fun Q hQ => iteT (hQ _ F1 al1 H1 rel1 .refl rfl)
/-! ### .. as values -/
def evNot (m : M Va) : M Va := evT m >>= fun b => pure (.im (.bl (!b)))
def evAnd (a b : M Va) : M Va := a >>= fun v => truOf v >>= fun k => match k with
  | true => b
  | false => pure v
def evOr (a b : M Va) : M Va := a >>= fun v => truOf v >>= fun k => match k with
  | true => pure v
  | false => b
def evIf (c : M Bool) (a b : M Va) : M Va := c >>= fun k => match k with
  | true => a
  | false => b
theorem se_not {a : Expr} {ea : M Va} {pos : Pos} (ha : SE X K W a tha ea) : SE X K W (.UnaryOp .Not a pos) (tNotT K tha) (evNot ea) := by
  obtain ⟨rfl, p, g⟩ := ha
  refine ⟨rfl, pe_notT p, fun E F al H σ s rel => ?_⟩
  have q := Sat.bind (f := fun b => (pure (.im (.bl (!b))) : M Va)) (u := fun c H1 (Q : VK) => Q (.bl (!c)) H1) (VR.low (K := X.K) (E := E) (σ := σ)) (good_evT g E F al H σ s rel) fun b s1 w1 F1 al1 H1 _ rel1 st1 v1 => ?_
  · exact q.imp fun Q h => h
  · exact fun Q hQ => hQ _ F1 al1 H1 rel1 .refl (by rw [v1]; exact .bl _)
theorem se_one {op : BoolOp} {a : Expr} {ea : M Va} {pos : Pos} (ha : SE X K W a tha ea) : SE X K W (.BoolOp op [a] pos) tha ea := by
  obtain ⟨rfl, p, g⟩ := ha
  exact ⟨rfl, pe_one p, g⟩
theorem se_and {a b : Expr} {rest : List Expr} {ea eb : M Va} {pos : Pos} (ha : SE X K W a tha ea) (hb : SE X K W (.BoolOp .And (b :: rest) pos) thb eb) : SE X K W (.BoolOp .And (a :: b :: rest) pos) (tAndT K tha thb) (evAnd ea eb) := by
  obtain ⟨rfl, p, g⟩ := ha
  obtain ⟨_, q, k⟩ := hb
  refine ⟨rfl, pe_andT p q, fun E F al H σ s rel => ?_⟩
  refine Sat.bind2 (u := fun x H1 Q => ∃ k, TruV X.K x H1 k ∧ if k = true then thb σ H1 Q else Q x H1) (g E F al H σ s rel) fun va s1 w1 F1 al1 H1 _ rel1 st1 v1 => ?_
  rw [M.bind_run]
  cases ht : truOf va s1 with
  | no => exact True.intro
  | ex x s2 => exact (truOf_nex ht).elim
  | ok c s2 =>
    obtain ⟨rfl, tv⟩ := truOf_ok rel1 v1 ht
    cases c with
    | true => exact (Sat.after VR.low st1 (k E F1 al1 H1 σ s2 rel1)).imp fun Q z => ⟨true, tv, iteT z⟩
    | false => exact fun Q hQ => ⟨false, tv, iteF (hQ _ F1 al1 H1 rel1 st1 v1)⟩
theorem se_or {a b : Expr} {rest : List Expr} {ea eb : M Va} {pos : Pos} (ha : SE X K W a tha ea) (hb : SE X K W (.BoolOp .Or (b :: rest) pos) thb eb) : SE X K W (.BoolOp .Or (a :: b :: rest) pos) (tOrT K tha thb) (evOr ea eb) := by
  obtain ⟨rfl, p, g⟩ := ha
  obtain ⟨_, q, k⟩ := hb
  refine ⟨rfl, pe_orT p q, fun E F al H σ s rel => ?_⟩
  refine Sat.bind2 (u := fun x H1 Q => ∃ k, TruV X.K x H1 k ∧ if k = true then Q x H1 else thb σ H1 Q) (g E F al H σ s rel) fun va s1 w1 F1 al1 H1 _ rel1 st1 v1 => ?_
  rw [M.bind_run]
  cases ht : truOf va s1 with
  | no => exact True.intro
  | ex x s2 => exact (truOf_nex ht).elim
  | ok c s2 =>
    obtain ⟨rfl, tv⟩ := truOf_ok rel1 v1 ht
    cases c with
    | false => exact (Sat.after VR.low st1 (k E F1 al1 H1 σ s2 rel1)).imp fun Q z => ⟨false, tv, iteF z⟩
    | true => exact fun Q hQ => ⟨true, tv, iteT (hQ _ F1 al1 H1 rel1 st1 v1)⟩
theorem se_if {c a b : Expr} {ec : M Bool} {ea eb : M Va} {pos : Pos} (hc : ST X K W c thc ec) (ha : SE X K W a tha ea) (hb : SE X K W b thb eb) : SE X K W (.IfExp c a b pos) (tIf thc tha thb) (evIf ec ea eb) := by
  obtain ⟨rfl, pc, gc⟩ := hc
  obtain ⟨_, pa, ga⟩ := ha
  obtain ⟨_, pb, gb⟩ := hb
  refine ⟨rfl, pe_ifExp pc pa pb, fun E F al H σ s rel => ?_⟩
  refine Sat.bind (u := fun c H1 Q => if c = true then tha σ H1 Q else thb σ H1 Q) VR.low (gc E F al H σ s rel) fun b s1 w1 F1 al1 H1 _ rel1 st1 v1 => ?_
  cases v1
  cases b with
  | true => exact (ga E F1 al1 H1 σ s1 rel1).imp fun Q z => iteT z
  | false => exact (gb E F1 al1 H1 σ s1 rel1).imp fun Q z => iteF z
/-! ### a op b op c -/
def opF (f : D → D → Option Va) (x y : Va) : M Va := fun s => match rd x s, rd y s with
  | some p, some q => (match f p q with
    | some v => .ok v s
    | none => .no)
  | _, _ => .no
theorem opF_ok {r : R2} {f : D → D → Option Va} (hs : OpS K r f) {E : Ent} {Hs Hs2 F H : Hp} {al : List Addr} {σ : L2.St} {s : S} {w1 w2 : V} {x y : Va} (rel : Rel K E F al H σ s) (v1 : VaR K E Hs al F H σ s w1 x) (v2 : VaR K E Hs2 al F H σ s w2 y) :
    Sat K E W (VR K E σ) F al H σ s (fun Q => r w1 w2 H Q) (opF f x y s) := by
  unfold opF
  cases hx : rd x s with
  | none => exact True.intro
  | some p =>
    cases hy : rd y s with
    | none => exact True.intro
    | some q =>
      show Sat K E W (VR K E σ) F al H σ s (fun Q => r w1 w2 H Q) (match f p q with
        | some v => .ok v s
        | none => .no)
      cases hf : f p q with
      | none => exact True.intro
      | some va => exact fun Q hQ => hs E F al H σ s w1 w2 p q va rel (rd_ok rel v1 hx) (rd_ok rel v2 hy) hf Q hQ
def evChain (f g : D → D → Option Va) (a b c : M Va) : M Va := a >>= fun x => b >>= fun y => opF f x y >>= fun z => match z with
  | .im (.bl true) => c >>= fun w => opF g y w
  | .im (.bl false) => pure (.im (.bl false))
  | _ => fun _ => .no
theorem good_chain {r r' : R2} {f g : D → D → Option Va} {ta tb tc : TE} {a b c : M Va} (ga : GoodE K W ta a) (gb : GoodE K W tb b) (gc : GoodE K W tc c) (hs : OpS K r f) (hs' : OpS K r' g) : GoodE K W (tChain r r' ta tb tc) (evChain f g a b c) := fun E F al H σ s rel => by
  refine Sat.bind (u := fun x H1 Q => tb σ H1 fun y H2 => r x y H2 fun z H3 => ∃ k, z = .bl k ∧ (if k = true then tc σ H3 fun w' H4 => r' y w' H4 Q else Q (.bl false) H3)) VR.low (ga E F al H σ s rel) fun x s1 w1 F1 al1 H1 _ rel1 st1 v1 => ?_
  refine Sat.bind (u := fun y H2 Q => r w1 y H2 fun z H3 => ∃ k, z = .bl k ∧ (if k = true then tc σ H3 fun w' H4 => r' y w' H4 Q else Q (.bl false) H3)) VR.low (gb E F1 al1 H1 σ s1 rel1) fun y s2 w2 F2 al2 H2 _ rel2 st2 v2 => ?_
  refine Sat.bind (u := fun z H3 Q => ∃ k, z = .bl k ∧ (if k = true then tc σ H3 fun w' H4 => r' w2 w' H4 Q else Q (.bl false) H3)) VR.low (opF_ok hs rel2 (v1.mono st2) v2) fun z s3 w3 F3 al3 H3 _ rel3 st3 v3 => ?_
  cases z with
  | im d =>
    cases d with
    | bl k =>
      cases (show Dat K al3 F3 (.bl k) w3 from v3)
      cases k with
      | true =>
        have q := Sat.bind (u := fun w' H4 Q => r' w2 w' H4 Q) VR.low (gc E F3 al3 H3 σ s3 rel3) fun w s4 w4 F4 al4 H4 _ rel4 st4 v4 => opF_ok (W := W) hs' rel4 ((v2.mono st3).mono st4) v4
        exact q.imp fun Q z => ⟨true, rfl, iteT z⟩
      | false => exact fun Q hQ => ⟨false, rfl, iteF (hQ _ F3 al3 H3 rel3 .refl (.bl false))⟩
    | _ => exact True.intro
  | _ => exact True.intro
theorem se_chain {op op' : CmpOp} {r r' : R2} {f g : D → D → Option Va} {a b c : Expr} {ea eb ec : M Va} {pos : Pos} (ho : OpR X (compareOp op) r) (ho' : OpR X (compareOp op') r') (hs : OpS K r f) (hs' : OpS K r' g) (ha : SE X K W a tha ea) (hb : SE X K W b thb eb) (hc : SE X K W c thc ec)
    (hm : lastMarks [op, op'] [b, c] = false := by with_unfolding_all rfl) : SE X K W (.Compare a [op, op'] [b, c] pos) (tChain r r' tha thb thc) (evChain f g ea eb ec) := by
  obtain ⟨rfl, pa, ga⟩ := ha
  obtain ⟨_, pb, gb⟩ := hb
  obtain ⟨_, pc, gc⟩ := hc
  exact ⟨rfl, pe_chain ho ho' pa pb pc hm, good_chain ga gb gc hs hs'⟩
theorem st_chain {op op' : CmpOp} {r r' : R2} {f g : D → D → Option Va} {a b c : Expr} {ea eb ec : M Va} {pos : Pos} (ho : OpR X (compareOp op) r) (ho' : OpR X (compareOp op') r') (hs : OpS K r f) (hs' : OpS K r' g) (ha : SE X K W a tha ea) (hb : SE X K W b thb eb) (hc : SE X K W c thc ec)
    (hm : lastMarks [op, op'] [b, c] = false := by with_unfolding_all rfl) : ST X K W (.Compare a [op, op'] [b, c] pos) (tTest (tChain r r' tha thb thc)) (evB (evChain f g ea eb ec)) := by
  obtain ⟨rfl, pa, ga⟩ := ha
  obtain ⟨_, pb, gb⟩ := hb
  obtain ⟨_, pc, gc⟩ := hc
  exact ⟨rfl, pt_chain ho ho' pa pb pc hm, good_tt (good_chain ga gb gc hs hs')⟩
/-! ### argument lists, displays -/
def evNil : M (List D) := pure []
def evCons (m : M Va) (r : M (List D)) : M (List D) := (m >>= esc) >>= fun d => r >>= fun ds => pure (d :: ds)
def seqOf : D → Option (List D)
  | .lst xs => some xs
  | .tup xs => some xs
  | .lz xs => some xs
  | .tz xs => some xs
  | _ => none
theorem seqOf_ok {al : List Addr} {F H : Hp} {p : D} {w : V} {xs : List D} (hs : Sub F H) (r : Rdr K al F H p w) (h : seqOf p = some xs) : ∃ a vs, w = .ref a ∧ (SqT K H a vs ∨ SqL K H a vs) ∧ DatL K al F xs vs ∧ xs.length ≤ sizeLine := by
  unfold seqOf at h
  split at h
  · cases h; obtain ⟨a, vs, e, h1, l, z⟩ := r.lst hs; exact ⟨a, vs, e, .inr (.of h1), l, z⟩
  · cases h; obtain ⟨a, vs, e, h1, l, z⟩ := r.tup hs; exact ⟨a, vs, e, .inl (.of h1), l, z⟩
  · cases h; obtain ⟨a, vs, e, h1, l, z⟩ := r.lz hs; exact ⟨a, vs, e, .inr h1, l, z⟩
  · cases h; obtain ⟨a, vs, e, h1, l, z⟩ := r.tz hs; exact ⟨a, vs, e, .inl h1, l, z⟩
  · cases h
def evStar (m : M Va) (r : M (List D)) : M (List D) := m >>= fun v s => match (rd v s).bind seqOf with
  | some xs => (r >>= fun ys => (pure (xs ++ ys) : M (List D))) s
  | none => .no
theorem sa_nil (hK : X.K = K := by rfl) : SA X K W [] tNil evNil := ⟨hK, pa_nil, fun E F al H σ s rel => fun Q hQ => hQ [] F al H rel .refl .nil⟩
theorem sa_cons {e : Expr} {es : List Expr} {ev : M Va} {evs : M (List D)} (he : SE X K W e the ev) (hr : SA X K W es thr evs) (hs : starEach (e :: es) X.env = (false, eval e X.env) :: starEach es X.env := by rfl) : SA X K W (e :: es) (tCons the thr) (evCons ev evs) := by
  obtain ⟨rfl, pe, ge⟩ := he
  obtain ⟨_, pa, ga⟩ := hr
  refine ⟨rfl, pa_cons pe pa hs, fun E F al H σ s rel => ?_⟩
  refine Sat.bind (u := fun x H1 Q => thr σ H1 fun xs H2 => Q (x :: xs) H2) LR.low (ge E F al H σ s rel).esc fun d s1 w1 F1 al1 H1 _ rel1 st1 v1 => ?_
  refine Sat.bind (u := fun xs H2 Q => Q (w1 :: xs) H2) LR.low (ga E F1 al1 H1 σ s1 rel1) fun ds s2 w2 F2 al2 H2 _ rel2 st2 v2 => ?_
  exact fun Q hQ => hQ _ F2 al2 H2 rel2 .refl (.cons (v1.mono st2.gr) v2)
theorem sa_star {e : Expr} {es : List Expr} {ev : M Va} {evs : M (List D)} {p : Pos} (he : SE X K W e the ev) (hr : SA X K W es thr evs) (hs : starEach (.Starred e p :: es) X.env = (true, eval e X.env) :: starEach es X.env := by rfl) : SA X K W (.Starred e p :: es) (StX.tStar K the thr) (evStar ev evs) := by
  obtain ⟨rfl, pe, ge⟩ := he
  obtain ⟨_, pa, ga⟩ := hr
  refine ⟨rfl, StX.pa_star pe pa hs, fun E F al H σ s rel => ?_⟩
  refine Sat.bind (u := fun x H1 Q => ∃ p xs, x = V.ref p ∧ (SqT X.K H1 p xs ∨ SqL X.K H1 p xs) ∧ thr σ H1 fun ys H2 => Q (xs ++ ys) H2) LR.low (ge E F al H σ s rel) fun va s1 w1 F1 al1 H1 _ rel1 st1 v1 => ?_
  cases h : (rd va s1).bind seqOf with
  | none => exact True.intro
  | some xs =>
    cases hr : rd va s1 with
    | none => rw [hr] at h; cases h
    | some p =>
      rw [hr] at h
      obtain ⟨a, vs, e, h1, l, z⟩ := seqOf_ok rel1.sub (rd_ok rel1 v1 hr) h
      have q := Sat.bind (u := fun ys H2 Q => Q (vs ++ ys) H2) (LR.low (K := X.K)) (ga E F1 al1 H1 σ s1 rel1) (f := fun ys => (pure (xs ++ ys) : M (List D))) fun ds s2 w2 F2 al2 H2 _ rel2 st2 v2 => fun Q hQ => hQ _ F2 al2 H2 rel2 .refl ((l.mono st2.gr).app v2)
      exact q.imp fun Q z => ⟨a, vs, e, h1, z⟩
def evLst (m : M (List D)) : M Va := m >>= fun ds s => if ds.length ≤ sizeLine then .ok (.fr (.lst ds)) s else .no
def evTup (m : M (List D)) : M Va := m >>= fun ds s => if ds.length ≤ sizeLine then .ok (.im (.tup ds)) s else .no
theorem se_lst {es : List Expr} {evs : M (List D)} {pos : Pos} (h : SA X K W es th evs) : SE X K W (.List es pos) (tLst th) (evLst evs) := by
  obtain ⟨rfl, pa, ga⟩ := h
  refine ⟨rfl, pe_lst pa, fun E F al H σ s rel => ?_⟩
  refine Sat.bind (u := fun xs H1 Q => xs.length ≤ sizeLine ∧ ∀ p, H1 p = none → Q (.ref p) (upd H1 p (.lst xs))) VR.low (ga E F al H σ s rel) fun ds s1 vs F1 al1 H1 _ rel1 st1 v1 => ?_
  show Sat X.K E W (VR X.K E σ) F1 al1 H1 σ s1 _ (if ds.length ≤ sizeLine then .ok (.fr (.lst ds)) s1 else .no)
  by_cases hz : ds.length ≤ sizeLine
  · rw [if_pos hz]
    exact fun Q hQ => ⟨by rw [← DatL.length v1]; exact hz, fun p hp => fin_l rel1 v1 hz hQ p hp⟩
  · rw [if_neg hz]; exact True.intro
theorem se_tup {es : List Expr} {evs : M (List D)} {k : Nat} {pos : Pos} (h : SA X K W es th evs) : SE X K W (.Tuple es k pos) (tTup th) (evTup evs) := by
  obtain ⟨rfl, pa, ga⟩ := h
  refine ⟨rfl, pe_tup pa, fun E F al H σ s rel => ?_⟩
  refine Sat.bind (u := fun xs H1 Q => xs.length ≤ sizeLine ∧ ∀ p, H1 p = none → Q (.ref p) (upd H1 p (.tup xs))) VR.low (ga E F al H σ s rel) fun ds s1 vs F1 al1 H1 _ rel1 st1 v1 => ?_
  show Sat X.K E W (VR X.K E σ) F1 al1 H1 σ s1 _ (if ds.length ≤ sizeLine then .ok (.im (.tup ds)) s1 else .no)
  by_cases hz : ds.length ≤ sizeLine
  · rw [if_pos hz]
    exact fun Q hQ => ⟨by rw [← DatL.length v1]; exact hz, fun p hp => fin_t rel1 v1 hz hQ p hp⟩
  · rw [if_neg hz]; exact True.intro
/-- {} : K for keys that are ints or texts, T for tuples -/
theorem se_dnewK {pos : Pos} (hK : X.K = K := by rfl) : SE X K W (.Dict [] [] pos) tDNewK (pure (.fr (.dk []))) := ⟨hK, pe_dnewK, fun E F al H σ s rel => fun Q hQ => fun p hp => hQ _ F al _ (rel.new0 hp) (.new0 hp) (.new rel hp .nil)⟩
theorem se_dnewT {pos : Pos} (hK : X.K = K := by rfl) : SE X K W (.Dict [] [] pos) tDNewT (pure (.fr (.dt []))) := ⟨hK, pe_dnewT, fun E F al H σ s rel => fun Q hQ => fun p hp => hQ _ F al _ (rel.new0 hp) (.new0 hp) (.new rel hp .nil)⟩
/-! ### subscripts -/
def fIx (c p : D) : Option Va := match c with
  | .lst xs => (match p with
    | .int i => (atI xs i).map .im
    | _ => none)
  | .tup xs => (match p with
    | .int i => (atI xs i).map .im
    | _ => none)
  | .lz xs => (match p with
    | .int i => (atI xs i).map .im
    | _ => none)
  | .tz xs => (match p with
    | .int i => (atI xs i).map .im
    | _ => none)
  | .str z => (match p with
    | .int i => if z.length ≤ sizeLine then (atI z.cps.toList i).map fun c => .im (.str ⟨#[c]⟩) else none
    | _ => none)
  | c => (match dictAt c p with
    | some (some d) => some (.im d)
    | _ => none)
def rDix : R2 := fun x y H Q => ∃ a v, x = .ref a ∧ DGet H a y (some v) ∧ Q v H
theorem ix_dict (hu : X.A.units + 1 < cLine) : IxR X rDix := by
  intro value slice pins s σ H x y v u Q I rx ry h hs
  obtain ⟨a, w, rfl, g, q⟩ := h
  cases rx
  exact PyProof.Rows.tail_any (dict_typeIs I g) PySem.F.slot_dict_getitem.lookup (d_getItem hu I g ry fun w' s' I' r' => ⟨w, H, I', r', q⟩) hs
def rIxX (K : PySem.W.Frag) : R2 := fun x y H Q => rIx K x y H Q ∨ rDix x y H Q
theorem ix_x (hu : X.A.units + 1 < cLine) : IxR X (rIxX X.K) := ix_seq.or (ix_dict hu)
theorem atI_dat {al : List Addr} {F : Hp} {ds : List D} {vs : List V} (l : DatL K al F ds vs) {i : Int} {d : D} (h : atI ds i = some d) : ∃ v, atI vs i = some v ∧ Dat K al F d v := by
  unfold atI at h ⊢
  rw [← l.length]
  cases hj : ixN ds.length i with
  | none => rw [hj] at h; cases h
  | some j =>
    rw [hj] at h
    exact l.getD (i := j) h
theorem ops_ix : OpS K (rIxX K) fIx := fun E F al H σ s x y p q va rel rx ry e Q hQ => by
  unfold fIx at e
  split at e
  · split at e
    · rename_i xs _ i
      cases h : atI xs i with
      | none => rw [h] at e; cases e
      | some d =>
        rw [h] at e; cases e
        obtain ⟨a, vs, rfl, h1, l, z⟩ := rx.lst rel.sub
        obtain ⟨v, hv, dv⟩ := atI_dat l h
        cases ry.int
        exact .inl (.inl ⟨a, vs, i, v, rfl, rfl, .of h1, hv, fin_d rel dv hQ⟩)
    · cases e
  · split at e
    · rename_i xs _ i
      cases h : atI xs i with
      | none => rw [h] at e; cases e
      | some d =>
        rw [h] at e; cases e
        obtain ⟨a, vs, rfl, h1, l, z⟩ := rx.tup rel.sub
        obtain ⟨v, hv, dv⟩ := atI_dat l h
        cases ry.int
        exact .inl (.inr (.inl ⟨a, vs, i, v, rfl, rfl, .of h1, hv, fin_d rel dv hQ⟩))
    · cases e
  · split at e
    · rename_i xs _ i
      cases h : atI xs i with
      | none => rw [h] at e; cases e
      | some d =>
        rw [h] at e; cases e
        obtain ⟨a, vs, rfl, h1, l, z⟩ := rx.lz rel.sub
        obtain ⟨v, hv, dv⟩ := atI_dat l h
        cases ry.int
        exact .inl (.inl ⟨a, vs, i, v, rfl, rfl, h1, hv, fin_d rel dv hQ⟩)
    · cases e
  · split at e
    · rename_i xs _ i
      cases h : atI xs i with
      | none => rw [h] at e; cases e
      | some d =>
        rw [h] at e; cases e
        obtain ⟨a, vs, rfl, h1, l, z⟩ := rx.tz rel.sub
        obtain ⟨v, hv, dv⟩ := atI_dat l h
        cases ry.int
        exact .inl (.inr (.inl ⟨a, vs, i, v, rfl, rfl, h1, hv, fin_d rel dv hQ⟩))
    · cases e
  · split at e
    · split at e
      · rename_i z _ i hz
        cases h : atI z.cps.toList i with
        | none => rw [h] at e; cases e
        | some c =>
          rw [h] at e; cases e
          cases rx.str; cases ry.int
          exact .inl (.inr (.inr ⟨z, i, c, rfl, rfl, hz, h, fin_d rel (.str _) hQ⟩))
      · cases e
    · cases e
  · split at e
    · rename_i d hd
      cases e
      obtain ⟨a, e, ov, g, q⟩ := dictAt_ok rel.sub ry rx hd
      cases ov with
      | none => exact q.elim
      | some v => exact .inr ⟨a, v, e, g, fin_d rel q hQ⟩
    · cases e
theorem se_ix {a b : Expr} {ea eb : M Va} {pos : Pos} (hu : X.A.units + 1 < cLine) (ha : SE X K W a tha ea) (hb : SE X K W b thb eb) (hs : PlainIx b := by exact fun _ _ => rfl) : SE X K W (.Subscript a b pos) (tOp (rIxX K) tha thb) (evOp fIx ea eb) := by
  obtain ⟨rfl, pa, ga⟩ := ha
  obtain ⟨_, pb, gb⟩ := hb
  exact ⟨rfl, pe_ix (ix_x hu) pa pb hs, good_op ga gb ops_ix⟩
/-! ### slices -/
def evPart : Option (M Va) → M (Option Int)
  | none => pure none
  | some m => m >>= fun v => match v with
    | .im (.int i) => pure (some i)
    | _ => fun _ => .no
abbrev OR : Hp → List Addr → Hp → Hp → S → Option Int → Option Int → Prop := fun _ _ _ _ _ w b => w = b
theorem OR.low : Low OR := fun _ _ _ _ _ _ _ _ _ r => r
def SO (X : Cx) (K : PySem.W.Frag) (W : Wx) (e : Option Expr) (t : TO) (ev : M (Option Int)) : Prop := X.K = K ∧ PO X e t ∧ ∀ (E : Ent) (F : Hp) (al : List Addr) (H : Hp) (σ : L2.St) (s : S), Rel K E F al H σ s → Sat K E W OR F al H σ s (t σ H) (ev s)
theorem so_none (hK : X.K = K := by rfl) : SO X K W none tNoPart (evPart none) := ⟨hK, po_none, fun E F al H σ s rel => fun Q hQ => hQ none F al H rel .refl rfl⟩
theorem so_some {e : Expr} {ev : M Va} (h : SE X K W e th ev) : SO X K W (some e) (tPart th) (evPart (some ev)) := by
  obtain ⟨rfl, pe, ge⟩ := h
  refine ⟨rfl, po_some pe, fun E F al H σ s rel => ?_⟩
  refine Sat.bind (u := fun x H1 Q => ∃ i, x = .int i ∧ Q (some i) H1) OR.low (ge E F al H σ s rel) fun va s1 w1 F1 al1 H1 _ rel1 st1 v1 => ?_
  cases va with
  | im d =>
    cases d with
    | int i =>
      cases (show Dat X.K al1 F1 (.int i) w1 from v1)
      exact fun Q hQ => ⟨i, rfl, hQ _ F1 al1 H1 rel1 .refl rfl⟩
    | _ => exact True.intro
  | _ => exact True.intro
def cutD {α : Type} (xs : List α) (lo hi : Option Int) : List α := (xs.drop (HT.sIx xs.length 0 lo)).take (HT.sIx xs.length xs.length hi - HT.sIx xs.length 0 lo)
def fSl (p : D) (lo hi : Option Int) : Option Va := match p with
  | .lst xs => some (.fr (.lst (cutD xs lo hi)))
  | .tup xs => some (.im (.tup (cutD xs lo hi)))
  | .str z => if z.length ≤ sizeLine then some (.im (.str (cutS z lo hi))) else none
  | _ => none
def evSl (m : M Va) (l h : M (Option Int)) : M Va := m >>= fun v => l >>= fun lo => h >>= fun hi => fun s => match (rd v s).bind fun p => fSl p lo hi with
  | some v => .ok v s
  | none => .no
def rSlX (K : PySem.W.Frag) : V → Option Int → Option Int → Hp → VK → Prop := fun x lo hi H Q => rSlL K x lo hi H Q ∨ (fun x lo hi H Q => L2.rSlA K x lo hi H Q ∨ rSlS x lo hi H Q) x lo hi H Q
theorem sl_x : L2.SlR X (rSlX X.K) := L2.SlR.or sl_list (L2.SlR.or sl_tupA sl_str)
theorem cut_dat {al : List Addr} {F : Hp} {ds : List D} {vs : List V} (l : DatL K al F ds vs) (lo hi : Option Int) : DatL K al F (cutD ds lo hi) (cutV vs lo hi) := by
  unfold cutD cutV
  rw [← l.length]
  exact l.drop.take
theorem cut_len {α : Type} (xs : List α) (lo hi : Option Int) : (cutD xs lo hi).length ≤ xs.length := by
  unfold cutD
  rw [List.length_take, List.length_drop]
  omega
theorem cut_all {α : Type} (xs : List α) {lo hi : Option Int} (h : HT.sIx xs.length 0 lo = 0 ∧ HT.sIx xs.length xs.length hi = xs.length) : cutD xs lo hi = xs := by
  unfold cutD
  rw [h.1, h.2]
  simp
theorem se_slice {e : Expr} {lo hi : Option Expr} {ev : M Va} {el eh : M (Option Int)} {p2 pos : Pos} (he : SE X K W e the ev) (hl : SO X K W lo thl el) (hh : SO X K W hi thh eh) : SE X K W (.Subscript e (.Slice lo hi none p2) pos) (tSl (rSlX K) the thl thh) (evSl ev el eh) := by
  obtain ⟨rfl, pe, ge⟩ := he
  obtain ⟨_, pl, gl⟩ := hl
  obtain ⟨_, ph, gh⟩ := hh
  refine ⟨rfl, pe_slice sl_x pe pl ph, fun E F al H σ s rel => ?_⟩
  refine Sat.bind (u := fun x H1 Q => thl σ H1 fun l H2 => thh σ H2 fun u H3 => rSlX X.K x l u H3 Q) VR.low (ge E F al H σ s rel) fun va s1 w1 F1 al1 H1 _ rel1 st1 v1 => ?_
  refine Sat.bind (u := fun l H2 Q => thh σ H2 fun u H3 => rSlX X.K w1 l u H3 Q) VR.low (gl E F1 al1 H1 σ s1 rel1) fun lo s2 w2 F2 al2 H2 _ rel2 st2 v2 => ?_
  refine Sat.bind (u := fun u H3 Q => rSlX X.K w1 w2 u H3 Q) VR.low (gh E F2 al2 H2 σ s2 rel2) fun hi s3 w3 F3 al3 H3 _ rel3 st3 v3 => ?_
  have v2 : w2 = lo := v2
  have v3 : w3 = hi := v3
  subst v2 v3
  cases hr : rd va s3 with
  | none => simp only [hr, Option.bind_none]; exact True.intro
  | some p =>
    simp only [hr, Option.bind_some]
    have rp := rd_ok rel3 ((v1.mono st2).mono st3) hr
    cases hf : fSl p w2 w3 with
    | none => exact True.intro
    | some vb =>
      refine fun Q hQ => ?_
      unfold fSl at hf
      split at hf
      · rename_i xs
        cases hf
        obtain ⟨a, vs, e, h1, l, z⟩ := rp.lst rel3.sub
        exact .inl ⟨a, vs, e, .of h1, fun q hq => fin_l rel3 (cut_dat l _ _) (Nat.le_trans (cut_len _ _ _) z) hQ q hq⟩
      · rename_i xs
        cases hf
        obtain ⟨a, vs, e, h1, l, z⟩ := rp.tup rel3.sub
        subst e
        refine .inr (.inl ⟨a, vs, rfl, .of h1, fun hw => ?_, fun _ q hq => fin_t rel3 (cut_dat l _ _) (Nat.le_trans (cut_len _ _ _) z) hQ q hq⟩)
        rw [← l.length] at hw
        rw [cut_all xs hw] at hQ
        exact hQ _ F3 al3 H3 rel3 .refl rp.tupD
      · split at hf
        · rename_i z hz
          cases hf
          cases rp.str
          exact .inr (.inr ⟨z, rfl, hz, fin_d rel3 (.str _) hQ⟩)
        · cases hf
      · cases hf
end
end VI
end
section
set_option Elab.async false
set_option linter.all false
set_option maxRecDepth 100000
set_option maxHeartbeats 2000000
/-! V8: the operators' rules by name; statements, targets, loops. -/
namespace VI
open PySem PySem.Spec L2

section
variable {X : Cx} {W : Wx} {K : PySem.W.Frag} {a b c : Expr} {tha thb thc : TE} {ea eb ec : M Va} {pos : Pos}
theorem se_add (ha : SE X K W a tha ea) (hb : SE X K W b thb eb) : SE X K W (.BinOp a .Add b pos) (tOp (rAddX K) tha thb) (evOp fAdd ea eb) := by
  obtain ⟨rfl, _⟩ := id ha; exact se_bin op_addX ops_add ha hb
theorem se_sub (ha : SE X K W a tha ea) (hb : SE X K W b thb eb) : SE X K W (.BinOp a .Sub b pos) (tOp (rI0 fun i j => .int (i - j)) tha thb) (evOp fSub ea eb) := se_bin op_sub ops_i0 ha hb
theorem se_mul (ha : SE X K W a tha ea) (hb : SE X K W b thb eb) : SE X K W (.BinOp a .Mult b pos) (tOp rMulX tha thb) (evOp fMul ea eb) := se_bin op_mulX ops_mul ha hb
theorem se_div (ha : SE X K W a tha ea) (hb : SE X K W b thb eb) : SE X K W (.BinOp a .FloorDiv b pos) (tOp (rI CDiv fun i j => .int (i / j)) tha thb) (evOp fDiv ea eb) := se_bin op_fdiv ops_div ha hb
theorem se_mod (ha : SE X K W a tha ea) (hb : SE X K W b thb eb) : SE X K W (.BinOp a .Mod b pos) (tOp (rI (fun _ j => 0 < j) fun i j => .int (i % j)) tha thb) (evOp fMod ea eb) := se_bin op_mod ops_mod ha hb
theorem se_pow (ha : SE X K W a tha ea) (hb : SE X K W b thb eb) : SE X K W (.BinOp a .Pow b pos) (tOp (rI CPow fun i j => .int (i ^ j.toNat)) tha thb) (evOp fPow ea eb) := se_bin op_pow ops_pow ha hb
def fNeg : D → D → Option Va
  | .int i, _ => some (.im (.int (-i)))
  | _, _ => none
def evNeg (m : M Va) : M Va := m >>= fun v => match v with
  | .im (.int i) => pure (.im (.int (-i)))
  | _ => fun _ => .no
theorem se_neg (ha : SE X K W a tha ea) : SE X K W (.UnaryOp .USub a pos) (tUn (rU fun i => .int (-i)) tha) (evNeg ea) := by
  obtain ⟨rfl, p, g⟩ := ha
  refine ⟨rfl, pe_un un_neg p, fun E F al H σ s rel => ?_⟩
  refine Sat.bind (u := fun x H1 Q => ∃ i, x = .int i ∧ Q (.int (-i)) H1) VR.low (g E F al H σ s rel) fun va s1 w1 F1 al1 H1 _ rel1 st1 v1 => ?_
  cases va with
  | im d =>
    cases d with
    | int i =>
      cases (show Dat X.K al1 F1 (.int i) w1 from v1)
      exact fun Q hQ => ⟨i, rfl, hQ _ F1 al1 H1 rel1 .refl (.int _)⟩
    | _ => exact True.intro
  | _ => exact True.intro
theorem se_eq (hu : X.A.units + 64 < cLine) (ha : SE X K W a tha ea) (hb : SE X K W b thb eb) : SE X K W (.Compare a [.Eq] [b] pos) (tOp (rEqv K false) tha thb) (evOp fEq ea eb) := by
  obtain ⟨rfl, _⟩ := id ha; exact se_cmp (op_eqv hu) ops_eq ha hb (nomark _)
theorem se_ne (hu : X.A.units + 64 < cLine) (ha : SE X K W a tha ea) (hb : SE X K W b thb eb) : SE X K W (.Compare a [.NotEq] [b] pos) (tOp (rEqv K true) tha thb) (evOp fNe ea eb) := by
  obtain ⟨rfl, _⟩ := id ha; exact se_cmp (op_nev hu) ops_ne ha hb (nomark _)
theorem se_lt (ha : SE X K W a tha ea) (hb : SE X K W b thb eb) : SE X K W (.Compare a [.Lt] [b] pos) (tOp (rOrd (fun i j => decide (i < j)) ltS) tha thb) (evOp fLt ea eb) := se_cmp op_ltX ops_lt ha hb (nomark _)
theorem se_gt (ha : SE X K W a tha ea) (hb : SE X K W b thb eb) : SE X K W (.Compare a [.Gt] [b] pos) (tOp (rOrd (fun i j => decide (j < i)) fun x y => ltS y x) tha thb) (evOp fGt ea eb) := se_cmp op_gtX ops_gt ha hb (nomark _)
theorem se_le (ha : SE X K W a tha ea) (hb : SE X K W b thb eb) : SE X K W (.Compare a [.LtE] [b] pos) (tOp (rOrd (fun i j => decide (i ≤ j)) fun x y => !ltS y x) tha thb) (evOp fLe ea eb) := se_cmp op_leX ops_le ha hb (nomark _)
theorem se_ge (ha : SE X K W a tha ea) (hb : SE X K W b thb eb) : SE X K W (.Compare a [.GtE] [b] pos) (tOp (rOrd (fun i j => decide (j ≤ i)) fun x y => !ltS x y) tha thb) (evOp fGe ea eb) := se_cmp op_geX ops_ge ha hb (nomark _)
theorem se_is (ha : SE X K W a tha ea) (hb : SE X K W b thb eb) : SE X K W (.Compare a [.Is] [b] pos) (tOp (fun x y H Q => y = .non ∧ Q (.bl (decide (x = .non))) H) tha thb) (evOp fIs ea eb) := se_cmp op_isN ops_is ha hb (nomark _)
theorem se_isnt (ha : SE X K W a tha ea) (hb : SE X K W b thb eb) : SE X K W (.Compare a [.IsNot] [b] pos) (tOp (fun x y H Q => y = .non ∧ Q (.bl (!decide (x = .non))) H) tha thb) (evOp fIsnt ea eb) := se_cmp op_notN ops_isnt ha hb (nomark _)
theorem se_in (hu : X.A.units + 64 < cLine) (ha : SE X K W a tha ea) (hb : SE X K W b thb eb) (hm : behindInMarks .In b = false := by with_unfolding_all rfl) : SE X K W (.Compare a [.In] [b] pos) (tOp (rInX K false) tha thb) (evOp fIn ea eb) := by
  obtain ⟨rfl, _⟩ := id ha; exact se_cmp (op_inX hu) ops_in ha hb hm
theorem se_notin (hu : X.A.units + 64 < cLine) (ha : SE X K W a tha ea) (hb : SE X K W b thb eb) (hm : behindInMarks .NotIn b = false := by with_unfolding_all rfl) : SE X K W (.Compare a [.NotIn] [b] pos) (tOp (rInX K true) tha thb) (evOp fNotIn ea eb) := by
  obtain ⟨rfl, _⟩ := id ha; exact se_cmp (op_notInX hu) ops_notin ha hb hm
theorem st_eq (hu : X.A.units + 64 < cLine) (ha : SE X K W a tha ea) (hb : SE X K W b thb eb) : ST X K W (.Compare a [.Eq] [b] pos) (tTest (tOp (rEqv K false) tha thb)) (evB (evOp fEq ea eb)) := by
  obtain ⟨rfl, _⟩ := id ha; exact st_cmp (op_eqv hu) ops_eq ha hb (nomark _)
theorem st_ne (hu : X.A.units + 64 < cLine) (ha : SE X K W a tha ea) (hb : SE X K W b thb eb) : ST X K W (.Compare a [.NotEq] [b] pos) (tTest (tOp (rEqv K true) tha thb)) (evB (evOp fNe ea eb)) := by
  obtain ⟨rfl, _⟩ := id ha; exact st_cmp (op_nev hu) ops_ne ha hb (nomark _)
theorem st_lt (ha : SE X K W a tha ea) (hb : SE X K W b thb eb) : ST X K W (.Compare a [.Lt] [b] pos) (tTest (tOp (rOrd (fun i j => decide (i < j)) ltS) tha thb)) (evB (evOp fLt ea eb)) := st_cmp op_ltX ops_lt ha hb (nomark _)
theorem st_gt (ha : SE X K W a tha ea) (hb : SE X K W b thb eb) : ST X K W (.Compare a [.Gt] [b] pos) (tTest (tOp (rOrd (fun i j => decide (j < i)) fun x y => ltS y x) tha thb)) (evB (evOp fGt ea eb)) := st_cmp op_gtX ops_gt ha hb (nomark _)
theorem st_le (ha : SE X K W a tha ea) (hb : SE X K W b thb eb) : ST X K W (.Compare a [.LtE] [b] pos) (tTest (tOp (rOrd (fun i j => decide (i ≤ j)) fun x y => !ltS y x) tha thb)) (evB (evOp fLe ea eb)) := st_cmp op_leX ops_le ha hb (nomark _)
theorem st_ge (ha : SE X K W a tha ea) (hb : SE X K W b thb eb) : ST X K W (.Compare a [.GtE] [b] pos) (tTest (tOp (rOrd (fun i j => decide (j ≤ i)) fun x y => !ltS x y) tha thb)) (evB (evOp fGe ea eb)) := st_cmp op_geX ops_ge ha hb (nomark _)
theorem st_is (ha : SE X K W a tha ea) (hb : SE X K W b thb eb) : ST X K W (.Compare a [.Is] [b] pos) (tTest (tOp (fun x y H Q => y = .non ∧ Q (.bl (decide (x = .non))) H) tha thb)) (evB (evOp fIs ea eb)) := st_cmp op_isN ops_is ha hb (nomark _)
theorem st_isnt (ha : SE X K W a tha ea) (hb : SE X K W b thb eb) : ST X K W (.Compare a [.IsNot] [b] pos) (tTest (tOp (fun x y H Q => y = .non ∧ Q (.bl (!decide (x = .non))) H) tha thb)) (evB (evOp fIsnt ea eb)) := st_cmp op_notN ops_isnt ha hb (nomark _)
theorem st_in (hu : X.A.units + 64 < cLine) (ha : SE X K W a tha ea) (hb : SE X K W b thb eb) (hm : behindInMarks .In b = false := by with_unfolding_all rfl) : ST X K W (.Compare a [.In] [b] pos) (tTest (tOp (rInX K false) tha thb)) (evB (evOp fIn ea eb)) := by
  obtain ⟨rfl, _⟩ := id ha; exact st_cmp (op_inX hu) ops_in ha hb hm
theorem st_notin (hu : X.A.units + 64 < cLine) (ha : SE X K W a tha ea) (hb : SE X K W b thb eb) (hm : behindInMarks .NotIn b = false := by with_unfolding_all rfl) : ST X K W (.Compare a [.NotIn] [b] pos) (tTest (tOp (rInX K true) tha thb)) (evB (evOp fNotIn ea eb)) := by
  obtain ⟨rfl, _⟩ := id ha; exact st_cmp (op_notInX hu) ops_notin ha hb hm
end

/-! ### statements -/
inductive Ot where
  | nx (s : S) | rt (v : Va) (s : S) | bk (s : S) | ct (s : S) | ex (x : Xc) (s : S) | no
abbrev Sx := S → Ot
/-- what a statement's end asks of what is wanted -/
def Wants (K : PySem.W.Frag) (E : Ent) (W : Wx) (al : List Addr) (F : Hp) (D : Ends) : Ot → Prop
  | .nx s' => ∀ (F' : Hp) (al' : List Addr) (H' : Hp) (σ' : L2.St), Rel K E F' al' H' σ' s' → Gr al F al' F' → D.nx σ' H'
  | .bk s' => ∀ (F' : Hp) (al' : List Addr) (H' : Hp) (σ' : L2.St), Rel K E F' al' H' σ' s' → Gr al F al' F' → D.bk σ' H'
  | .ct s' => ∀ (F' : Hp) (al' : List Addr) (H' : Hp) (σ' : L2.St), Rel K E F' al' H' σ' s' → Gr al F al' F' → D.ct σ' H'
  | .rt v s' => ∀ (w : V) (F' : Hp) (al' : List Addr) (H' : Hp) (σ' : L2.St), Rel K E F' al' H' σ' s' → Gr al F al' F' → VaR K E E.H al' F' H' σ' s' w v → (∀ i, v ≠ .pl i) → D.rt w H'
  | .ex x s' => ∀ (cls : Value) (d : Option Addr) (F' : Hp) (al' : List Addr) (H' : Hp) (σ' : L2.St), Rel K E F' al' H' σ' s' → Gr al F al' F' → XcR K al' F' H' cls d x → W cls d σ' H'
  | .no => False
def GoodS (K : PySem.W.Frag) (W : Wx) (t : TS) (sv : Sx) : Prop := ∀ (E : Ent) (F : Hp) (al : List Addr) (H : Hp) (σ : L2.St) (s : S) (D : Ends), Rel K E F al H σ s → Wants K E W al F D (sv s) → t D σ H
/-- a statement's worth, a block's -/
def SS (X : Cx) (K : PySem.W.Frag) (W : Wx) (st : Stmt) (t : TS) (sv : Sx) : Prop := X.K = K ∧ PS X st t ∧ GoodS K W t sv
def SSs (X : Cx) (K : PySem.W.Frag) (W : Wx) (st : List Stmt) (t : TS) (sv : Sx) : Prop := X.K = K ∧ PSs X st t ∧ GoodS K W t sv
section
variable {K : PySem.W.Frag} {E : Ent} {W : Wx} {al al1 : List Addr} {F F1 : Hp} {D D' : Ends} {o : Ot}
theorem Wants.gr (g : Gr al F al1 F1) (h : Wants K E W al F D o) : Wants K E W al1 F1 D o := by
  cases o with
  | nx s => exact fun F' al' H' σ' r k => h F' al' H' σ' r (g.trans k)
  | bk s => exact fun F' al' H' σ' r k => h F' al' H' σ' r (g.trans k)
  | ct s => exact fun F' al' H' σ' r k => h F' al' H' σ' r (g.trans k)
  | rt v s => exact fun w F' al' H' σ' r k => h w F' al' H' σ' r (g.trans k)
  | ex x s => exact fun c d F' al' H' σ' r k => h c d F' al' H' σ' r (g.trans k)
  | no => exact h
end
def svSeq (a b : Sx) : Sx := fun s => match a s with
  | .nx s' => b s'
  | o => o
def svSkip : Sx := .nx
def svIf (c : M Bool) (a b : Sx) : Sx := fun s => match c s with
  | .ok true s' => a s'
  | .ok false s' => b s'
  | .ex x s' => .ex x s'
  | .no => .no
/-- a value for a slot -/
def svLet {α : Type} (m : M α) (k : α → Sx) : Sx := fun s => match m s with
  | .ok v s' => k v s'
  | .ex x s' => .ex x s'
  | .no => .no
def setIm (i : Nat) (d : D) (s : S) : S := { s with env := s.env.set i (.im d) }
/-- name = value: the datum; a container of the slot's own; a cell -/
def svSet (i : Nat) (m : M Va) : Sx := svLet (m >>= esc) fun d s => .nx (setIm i d s)
def svSetO (i : Nat) (m : M Va) : Sx := svLet m fun v s => match v with
  | .fr o => .nx { s with env := s.env.set i (.ow false o) }
  | .im d => .nx (setIm i d s)
  | .pl _ => .no
def svSetC (i : Nat) (m : M Va) : Sx := svLet m fun v s => match v with
  | .fr o => .nx { env := s.env.set i (.im (.ref s.st.length)), st := s.st ++ [o] }
  | .im d => .nx (setIm i d s)
  | .pl _ => .no
def svExpr (m : M Va) : Sx := svLet m fun _ s => .nx s
def svRet (m : M Va) : Sx := svLet m fun v s => match v with
  | .im d => .rt (.im d) s
  | .fr o => .rt (.fr o) s
  | .pl i => (match s.env[i]? with
    | some (.ow false o) => .rt (.fr o) { s with env := s.env.set i .un }
    | some (.im d) => .rt (.im d) s
    | _ => .no)
def svRetN : Sx := fun s => .rt (.im .non) s

section
variable {K : PySem.W.Frag} {E : Ent} {σ : L2.St} {s s1 : S} {F F1 H H1 : Hp} {al al1 : List Addr} {w : V}
theorem set_get {α : Type} {l : List α} {i j : Nat} {x y : α} (h : (l.set i x)[j]? = some y) : (i = j ∧ y = x ∧ i < l.length) ∨ (i ≠ j ∧ l[j]? = some y) := by
  by_cases e : i = j
  · subst e
    by_cases hi : i < l.length
    · rw [List.getElem?_set_self hi] at h
      exact .inl ⟨rfl, (Option.some.inj h).symm, hi⟩
    · rw [List.getElem?_eq_none (by rw [List.length_set]; omega)] at h
      cases h
  · rw [List.getElem?_set_ne e] at h
    exact .inr ⟨e, h⟩
theorem Rel.setIm (r : Rel K E F al H σ s) (i : Nat) {d : D} (h : Dat K al F d w) : Rel K E F al H (σ.set i (some w)) (setIm i d s) := by
  refine ⟨r.sub, r.clen, r.cell, r.nd, by show (s.env.set i _).length = (σ.set i _).length; rw [List.length_set, List.length_set]; exact r.elen, fun j sl v g1 g2 => ?_, fun j k p q o u a g1 g2 g3 g4 => ?_, r.ent, fun j p o a g1 g2 => ?_⟩
  · rcases set_get g1 with ⟨e, e2, hi⟩ | ⟨e, g1⟩
    · subst e e2
      rw [List.getElem?_set_self (by rw [← r.elen]; exact hi)] at g2
      cases g2
      exact ⟨w, rfl, h⟩
    · rw [List.getElem?_set_ne e] at g2
      exact r.env j sl v g1 g2
  · rcases set_get g1 with ⟨e, e2, hi⟩ | ⟨e, g1⟩
    · cases e2
    · rcases set_get g2 with ⟨e', e2, hi⟩ | ⟨e', g2⟩
      · cases e2
      · rw [List.getElem?_set_ne e] at g3
        rw [List.getElem?_set_ne e'] at g4
        exact r.own j k p q o u a g1 g2 g3 g4
  · rcases set_get g1 with ⟨e, e2, hi⟩ | ⟨e, g1⟩
    · cases e2
    · rw [List.getElem?_set_ne e] at g2
      exact r.onew j p o a g1 g2
theorem Rel.setOw (r : Rel K E F al H σ s) (i : Nat) {o : Ob} {a : Addr} {ho : HO} (h1 : F a = none) (h2 : H a = some ho) (h3 : ObR K al F o ho) (h4 : ¬ Tch al s.env σ a) (h5 : E.H a = none) :
    Rel K E F al H (σ.set i (some (.ref a))) { s with env := s.env.set i (.ow false o) } := by
  refine ⟨r.sub, r.clen, r.cell, r.nd, by show (s.env.set i _).length = (σ.set i _).length; rw [List.length_set, List.length_set]; exact r.elen, fun j sl v g1 g2 => ?_, fun j k p q u z b g1 g2 g3 g4 => ?_, r.ent, fun j p u b g1 g2 => ?_⟩
  · rcases set_get g1 with ⟨e, e2, hi⟩ | ⟨e, g1⟩
    · subst e e2
      rw [List.getElem?_set_self (by rw [← r.elen]; exact hi)] at g2
      cases g2
      exact ⟨a, ho, rfl, h1, fun z => h4 (.inl z), h2, h3⟩
    · rw [List.getElem?_set_ne e] at g2
      exact r.env j sl v g1 g2
  · rcases set_get g1 with ⟨e, e2, hi⟩ | ⟨e, g1⟩
    · rcases set_get g2 with ⟨e', e2', hi'⟩ | ⟨e', g2⟩
      · exact e.symm.trans e'
      · rw [List.getElem?_set_ne e'] at g4
        subst e
        rw [List.getElem?_set_self (by rw [← r.elen]; exact hi)] at g3
        cases g3
        exact absurd (Or.inr ⟨k, _, _, g2, g4⟩) h4
    · rw [List.getElem?_set_ne e] at g3
      rcases set_get g2 with ⟨e', e2', hi'⟩ | ⟨e', g2⟩
      · subst e'
        rw [List.getElem?_set_self (by rw [← r.elen]; exact hi')] at g4
        cases g4
        exact absurd (Or.inr ⟨j, _, _, g1, g3⟩) h4
      · rw [List.getElem?_set_ne e'] at g4
        exact r.own j k p q u z b g1 g2 g3 g4
  · rcases set_get g1 with ⟨e, e2, hi⟩ | ⟨e, g1⟩
    · cases e2
      subst e
      rw [List.getElem?_set_self (by rw [← r.elen]; exact hi)] at g2
      cases g2
      simpa using h5
    · rw [List.getElem?_set_ne e] at g2
      exact r.onew j p u b g1 g2
/-- a container becomes a cell -/
theorem Rel.mkCell (r : Rel K E F al H σ s) {o : Ob} {a : Addr} {ho : HO} (h1 : F a = none) (h2 : H a = some ho) (h3 : ObR K al F o ho) (h4 : ¬ Tch al s.env σ a) (h5 : E.H a = none) :
    Rel K E F (al ++ [a]) H σ { s with st := s.st ++ [o] } ∧ Gr al F (al ++ [a]) F ∧ Dat K (al ++ [a]) F (.ref s.st.length) (.ref a) := by
  have gr : Gr al F (al ++ [a]) F := ⟨fun _ _ h => h, [a], rfl⟩
  refine ⟨⟨r.sub, by simp [r.clen], fun j b u g1 g2 => ?_, ?_, r.elen, fun j sl v g1 g2 => ?_, r.own, ?_, r.onew⟩, gr, .ref (by rw [← r.clen]; simp)⟩
  · by_cases e : j < al.length
    · rw [List.getElem?_append_left e] at g1
      rw [List.getElem?_append_left (by rw [← r.clen]; exact e)] at g2
      obtain ⟨f, hu, q1, q2⟩ := r.cell j b u g1 g2
      exact ⟨f, hu, q1, q2.mono gr⟩
    · rw [List.getElem?_append_right (by omega)] at g1
      rw [List.getElem?_append_right (by rw [← r.clen]; omega)] at g2
      have e2 : j - al.length = 0 := by
        have := (List.getElem?_eq_some_iff.mp g1).1
        simp at this; omega
      rw [e2] at g1
      rw [← r.clen, e2] at g2
      cases g1; cases g2
      exact ⟨h1, ho, h2, h3.mono gr⟩
  · rw [List.nodup_append]
    exact ⟨r.nd, by simp, fun x hx y hy => by
      simp at hy; subst hy; intro e; subst e; exact h4 (.inl hx)⟩
  · have q := r.env j sl v g1 g2
    cases sl with
    | un => exact True.intro
    | im d =>
      obtain ⟨x, e, q⟩ := q
      exact ⟨x, e, q.mono gr⟩
    | ow p u =>
      obtain ⟨b, hb, e, q1, q2, q3, q4⟩ := q
      subst e
      refine ⟨b, hb, rfl, q1, fun z => ?_, q3, q4.mono gr⟩
      rcases List.mem_append.mp z with z | z
      · exact q2 z
      · simp at z; subst z; exact h4 (.inr ⟨j, _, _, g1, g2⟩)
  · obtain ⟨l, e, n⟩ := r.ent.al
    exact ⟨r.ent.f, r.ent.fn, ⟨l ++ [a], by rw [e, List.append_assoc], fun x hx => by
      rcases List.mem_append.mp hx with hx | hx
      · exact n x hx
      · simp at hx; subst hx; exact h5⟩, r.ent.keep, r.ent.live⟩
end
section
variable {X : Cx} {W : Wx} {K : PySem.W.Frag}
theorem sss_nil (hK : X.K = K := by rfl) : SSs X K W [] tNext svSkip := ⟨hK, pss_nil, fun E F al H σ s D rel w => w F al H σ rel .refl⟩
theorem sss_one {st : Stmt} {t : TS} {sv : Sx} (h : SS X K W st t sv) : SSs X K W [st] t sv := by
  obtain ⟨hK, p, g⟩ := h
  exact ⟨hK, pss_one p, g⟩
theorem good_seq {t u : TS} {a b : Sx} (g : GoodS K W t a) (k : GoodS K W u b) : GoodS K W (tSeq t u) (svSeq a b) := fun E F al H σ s D rel w => by
  refine g E F al H σ s _ rel ?_
  have w : Wants K E W al F D (match a s with
    | .nx s' => b s'
    | o => o) := w
  cases ha : a s with
  | nx s1 =>
    rw [ha] at w
    exact fun F' al' H' σ' r gr => k E F' al' H' σ' s1 D r (w.gr gr)
  | _ => rw [ha] at w; exact w
theorem sss_cons {st : Stmt} {rest : List Stmt} {t u : TS} {a b : Sx} (h : SS X K W st t a) (hr : SSs X K W rest u b) : SSs X K W (st :: rest) (tSeq t u) (svSeq a b) := by
  obtain ⟨hK, p, g⟩ := h
  obtain ⟨_, q, k⟩ := hr
  exact ⟨hK, pss_cons p q, good_seq g k⟩
/-- a reading in a statement -/
theorem Sat.want {α β : Type} {E : Ent} {R : Hp → List Addr → Hp → Hp → S → β → α → Prop} {F H : Hp} {al : List Addr} {σ : L2.St} {s : S} {t : (β → Hp → Prop) → Prop} {m : M α} {k : α → Sx} {D : Ends} {u : β → Hp → Prop} (h : Sat K E W R F al H σ s t (m s)) (w : Wants K E W al F D (svLet m k s))
    (hk : ∀ a s1 v F1 al1 H1, m s = .ok a s1 → Rel K E F1 al1 H1 σ s1 → Gr al F al1 F1 → R H al1 F1 H1 s1 v a → Wants K E W al1 F1 D (k a s1) → u v H1) (hx : ∀ x s1 Q, m s = .ex x s1 → (∀ cls d F' al' H', Rel K E F' al' H' σ s1 → Stp σ s s1 F al H F' al' H' → XcR K al' F' H' cls d x → W cls d σ H') → t Q → t Q) : t u := by
  unfold svLet at w
  cases hm : m s with
  | no => rw [hm] at w; exact w.elim
  | ex x s1 =>
    rw [hm] at h w
    exact h _ fun cls d F' al' H' r st x => w cls d F' al' H' σ r st.gr x
  | ok a s1 =>
    rw [hm] at h w
    exact h _ fun v F1 al1 H1 r st q => hk a s1 v F1 al1 H1 hm r st.gr q (w.gr st.gr)
theorem ss_if {c : Expr} {p q : List Stmt} {thc : TT} {t u : TS} {ec : M Bool} {a b : Sx} {pos : Pos} (hc : ST X K W c thc ec) (ha : SSs X K W p t a) (hb : SSs X K W q u b) : SS X K W (.If c p q pos) (tIfS thc t u) (svIf ec a b) := by
  obtain ⟨hK, pc, gc⟩ := hc
  obtain ⟨_, pa, ga⟩ := ha
  obtain ⟨_, pb, gb⟩ := hb
  refine ⟨hK, ps_if pc pa pb, fun E F al H σ s D rel w => ?_⟩
  refine Sat.want (k := fun x => match x with
    | true => a
    | false => b) (m := ec) (gc E F al H σ s rel) (D := D) ?_ (fun x s1 v F1 al1 H1 hm r gr e w1 => ?_) fun _ _ _ _ _ h => h
  · have w : Wants K E W al F D (match ec s with
      | .ok true s' => a s'
      | .ok false s' => b s'
      | .ex x s' => .ex x s'
      | .no => .no) := w
    unfold svLet
    cases he : ec s with
    | ok x s1 => rw [he] at w; cases x <;> exact w
    | ex x s1 => rw [he] at w; exact w
    | no => rw [he] at w; exact w
  · subst e
    cases v with
    | true => exact iteT (ga E F1 al1 H1 σ s1 D r w1)
    | false => exact iteF (gb E F1 al1 H1 σ s1 D r w1)
theorem ss_pass {pos : Pos} (hK : X.K = K := by rfl) : SS X K W (.Pass pos) tNext svSkip := ⟨hK, ps_pass, fun E F al H σ s D rel w => w F al H σ rel .refl⟩
theorem ss_doc {x : Str} {j : Nat} {pos pos' : Pos} (hK : X.K = K := by rfl) : SS X K W (.Expr (.Constant (.str x) j pos) pos') tNext svSkip := ⟨hK, ps_doc, fun E F al H σ s D rel w => w F al H σ rel .refl⟩
theorem ss_break {pos : Pos} (hK : X.K = K := by rfl) : SS X K W (.Break pos) tBreak .bk := ⟨hK, ps_break, fun E F al H σ s D rel w => w F al H σ rel .refl⟩
theorem ss_cont {pos : Pos} (hK : X.K = K := by rfl) : SS X K W (.Continue pos) tCont .ct := ⟨hK, ps_continue, fun E F al H σ s D rel w => w F al H σ rel .refl⟩
theorem ss_expr {e : Expr} {te : TE} {ev : M Va} {pos : Pos} (h : SE X K W e te ev) (hs : swapsWith e none pos.line X.env = pure false := by rfl) : SS X K W (.Expr e pos) (tDrop te) (svExpr ev) := by
  obtain ⟨hK, p, g⟩ := h
  exact ⟨hK, ps_expr p hs, fun E F al H σ s D rel w => (g E F al H σ s rel).want w (fun x s1 v F1 al1 H1 hm r gr e w1 => w1 F1 al1 H1 σ r .refl) fun _ _ _ _ _ h => h⟩
theorem ss_retN {pos : Pos} (hK : X.K = K := by rfl) : SS X K W (.Return none pos) tRetN svRetN := ⟨hK, ps_retN, fun E F al H σ s D rel w => w _ F al H σ rel .refl .non (fun _ e => by cases e)⟩
theorem ss_ret {e : Expr} {te : TE} {ev : M Va} {pos : Pos} (h : SE X K W e te ev) : SS X K W (.Return (some e) pos) (tRet te) (svRet ev) := by
  obtain ⟨hK, p, g⟩ := h
  refine ⟨hK, ps_ret p, fun E F al H σ s D rel w => (g E F al H σ s rel).want w (fun v s1 x F1 al1 H1 hm r gr q w1 => ?_) fun _ _ _ _ _ h => h⟩
  cases v with
  | im d => exact w1 x F1 al1 H1 σ r .refl q (fun _ e => by cases e)
  | fr o =>
    obtain ⟨a, ho, e, h1, h2, h3, h4, h5, h6⟩ := q
    exact w1 x F1 al1 H1 σ r .refl ⟨a, ho, e, h1, h2, h3, h4, h5, h5⟩ (fun _ e => by cases e)
  | pl i =>
    have w1 : Wants K E W al1 F1 D (match s1.env[i]? with
      | some (.ow false o) => .rt (.fr o) { s1 with env := s1.env.set i .un }
      | some (.im d) => .rt (.im d) s1
      | _ => .no) := w1
    cases he : s1.env[i]? with
    | none => rw [he] at w1; exact w1.elim
    | some sl =>
      rw [he] at w1
      cases sl with
      | un => exact w1.elim
      | im d =>
        obtain ⟨y, e, q2⟩ := r.env i _ _ he q.1
        cases e
        exact w1 x F1 al1 H1 σ r .refl q2 (fun _ e => by cases e)
      | ow b o =>
        cases b with
        | true => exact w1.elim
        | false =>
          obtain ⟨a, ho, e, h1, h2, h3, h4⟩ := r.env i _ _ he q.1
          cases e
          have h5 : E.H a = none := by simpa using r.onew i false o a he q.1
          have r2 : Rel K E F1 al1 H1 σ { s1 with env := s1.env.set i .un } := by
            refine ⟨r.sub, r.clen, r.cell, r.nd, by show (s1.env.set i _).length = _; rw [List.length_set]; exact r.elen, fun j sl v g1 g2 => ?_, fun j k p q o u a g1 g2 g3 g4 => ?_, r.ent, fun j p o a g1 g2 => ?_⟩
            · rcases set_get g1 with ⟨e, e2, hi⟩ | ⟨e, g1⟩
              · subst e2; exact True.intro
              · exact r.env j sl v g1 g2
            · rcases set_get g1 with ⟨e, e2, hi⟩ | ⟨e, g1⟩
              · cases e2
              · rcases set_get g2 with ⟨e', e2, hi⟩ | ⟨e', g2⟩
                · cases e2
                · exact r.own j k p q o u a g1 g2 g3 g4
            · rcases set_get g1 with ⟨e, e2, hi⟩ | ⟨e, g1⟩
              · cases e2
              · exact r.onew j p o a g1 g2
          refine w1 _ F1 al1 H1 σ r2 .refl ⟨a, ho, rfl, h1, h3, h4, fun t => ?_, h5, h5⟩ (fun _ e => by cases e)
          rcases t with t | ⟨j, p, u, g1, g2⟩
          · exact h2 t
          · rcases set_get g1 with ⟨e, e2, hi⟩ | ⟨e, g1⟩
            · cases e2
            · exact e (r.own i j _ _ _ _ a he g1 q.1 g2)
theorem ss_set (i : Nat) {x : Str} {e : Expr} {te : TE} {ev : M Va} {pos pos' : Pos} (h : SE X K W e te ev) (hN : X.N.Nodup) (hi : X.N[i]? = some x := by rfl) (hx : Loc X.env.scope x := by first | exact Or.inl rfl | exact Or.inr rfl) (hs : swapsWith e (some (.Name x pos')) pos.line X.env = pure false := by rfl)
    (hf : X.fn x = true ∨ X.env.scope.names.lookup x = some .local := by first | exact .inl rfl | exact .inr rfl | assumption) : SS X K W (.Assign [.Name x pos'] e pos) (tAsg te (gName i)) (svSet i ev) := by
  obtain ⟨hK, p, g⟩ := h
  refine ⟨hK, ps_set hN hi hx p hs hf, fun E F al H σ s D rel w => (g E F al H σ s rel).esc.want w (fun d s1 v F1 al1 H1 hm r gr q w1 => ?_) fun _ _ _ _ _ h => h⟩
  exact w1 F1 al1 H1 _ (r.setIm i q) .refl
theorem ss_setO (i : Nat) {x : Str} {e : Expr} {te : TE} {ev : M Va} {pos pos' : Pos} (h : SE X K W e te ev) (hN : X.N.Nodup) (hi : X.N[i]? = some x := by rfl) (hx : Loc X.env.scope x := by first | exact Or.inl rfl | exact Or.inr rfl) (hs : swapsWith e (some (.Name x pos')) pos.line X.env = pure false := by rfl)
    (hf : X.fn x = true ∨ X.env.scope.names.lookup x = some .local := by first | exact .inl rfl | exact .inr rfl | assumption) : SS X K W (.Assign [.Name x pos'] e pos) (tAsg te (gName i)) (svSetO i ev) := by
  obtain ⟨hK, p, g⟩ := h
  refine ⟨hK, ps_set hN hi hx p hs hf, fun E F al H σ s D rel w => (g E F al H σ s rel).want w (fun d s1 v F1 al1 H1 hm r gr q w1 => ?_) fun _ _ _ _ _ h => h⟩
  cases d with
  | im d => exact w1 F1 al1 H1 _ (r.setIm i q) .refl
  | fr o =>
    obtain ⟨a, ho, e, h1, h2, h3, h4, h5, h6⟩ := q
    subst e
    exact w1 F1 al1 H1 _ (r.setOw i h1 h2 h3 h4 h5) .refl
  | pl j => exact w1.elim
theorem ss_setC (i : Nat) {x : Str} {e : Expr} {te : TE} {ev : M Va} {pos pos' : Pos} (h : SE X K W e te ev) (hN : X.N.Nodup) (hi : X.N[i]? = some x := by rfl) (hx : Loc X.env.scope x := by first | exact Or.inl rfl | exact Or.inr rfl) (hs : swapsWith e (some (.Name x pos')) pos.line X.env = pure false := by rfl)
    (hf : X.fn x = true ∨ X.env.scope.names.lookup x = some .local := by first | exact .inl rfl | exact .inr rfl | assumption) : SS X K W (.Assign [.Name x pos'] e pos) (tAsg te (gName i)) (svSetC i ev) := by
  obtain ⟨hK, p, g⟩ := h
  refine ⟨hK, ps_set hN hi hx p hs hf, fun E F al H σ s D rel w => (g E F al H σ s rel).want w (fun d s1 v F1 al1 H1 hm r gr q w1 => ?_) fun _ _ _ _ _ h => h⟩
  cases d with
  | im d => exact w1 F1 al1 H1 _ (r.setIm i q) .refl
  | fr o =>
    obtain ⟨a, ho, e, h1, h2, h3, h4, h5, h6⟩ := q
    subst e
    obtain ⟨r2, gr2, d2⟩ := r.mkCell h1 h2 h3 h4 h5
    exact w1 F1 _ H1 _ (r2.setIm i d2) gr2
  | pl j => exact w1.elim
end
end VI
end
section
set_option Elab.async false
set_option linter.all false
set_option maxRecDepth 100000
set_option maxHeartbeats 2000000
/-! V9: targets, what a loop walks, for, while. -/
namespace VI
open PySem PySem.Spec L2

/-! ### targets -/
abbrev Gv := D → S → Option S
abbrev Gvs := List D → S → Option S
def GoodG (K : PySem.W.Frag) (is : List Nat) (g : TG) (gv : Gv) : Prop := ∀ (E : Ent) (F : Hp) (al : List Addr) (H : Hp) (σ : L2.St) (s s' : S) (d : D) (v : V) (Q : L2.St → Hp → Prop), Rel K E F al H σ s → Dat K al F d v → gv d s = some s' →
  (∀ σ', Rel K E F al H σ' s' → (∀ i, i ∉ is → σ'[i]? = σ[i]? ∧ s'.env[i]? = s.env[i]?) → (∀ i p o, i ∈ is → s.env[i]? ≠ some (.ow p o) → s'.env[i]? ≠ some (.ow p o)) → σ'.length = σ.length → s'.st = s.st → Q σ' H) → g v σ H Q
def GoodGs (K : PySem.W.Frag) (is : List Nat) (g : TGs) (gv : Gvs) : Prop := ∀ (E : Ent) (F : Hp) (al : List Addr) (H : Hp) (σ : L2.St) (s s' : S) (ds : List D) (vs : List V) (Q : L2.St → Hp → Prop), Rel K E F al H σ s → DatL K al F ds vs → gv ds s = some s' →
  (∀ σ', Rel K E F al H σ' s' → (∀ i, i ∉ is → σ'[i]? = σ[i]? ∧ s'.env[i]? = s.env[i]?) → (∀ i p o, i ∈ is → s.env[i]? ≠ some (.ow p o) → s'.env[i]? ≠ some (.ow p o)) → σ'.length = σ.length → s'.st = s.st → Q σ' H) → g vs σ H Q
def SG (X : Cx) (K : PySem.W.Frag) (is : List Nat) (tg : Expr) (g : TG) (gv : Gv) : Prop := X.K = K ∧ PG X tg g ∧ GoodG K is g gv
def SGs (X : Cx) (K : PySem.W.Frag) (is : List Nat) (tgs : List Expr) (g : TGs) (gv : Gvs) : Prop := X.K = K ∧ PGs X tgs g ∧ GoodGs K is g gv
def gvName (i : Nat) : Gv := fun d s => some (setIm i d s)
def gvNil : Gvs := fun ds s => match ds with
  | [] => some s
  | _ => none
def gvCons (a : Gv) (r : Gvs) : Gvs := fun ds s => match ds with
  | d :: ds => (match a d s with
    | some s1 => r ds s1
    | none => none)
  | [] => none
def gvTup (n : Nat) (r : Gvs) : Gv := fun d s => match seqOf d with
  | some ds => if ds.length = n then r ds s else none
  | none => none
section
variable {X : Cx} {W : Wx} {K : PySem.W.Frag}
theorem PG.or {tg : Expr} {g h : TG} (a : PG X tg g) (b : PG X tg h) : PG X tg (fun v σ H Q => g v σ H Q ∨ h v σ H Q) :=
  ⟨fun pins s σ H v u Q I r hw => hw.elim (a.run pins s σ H v u Q I r) (b.run pins s σ H v u Q I r)⟩
theorem sg_name (i : Nat) {x : Str} {pos : Pos} (hN : X.N.Nodup) (hi : X.N[i]? = some x := by rfl) (hx : Loc X.env.scope x := by first | exact Or.inl rfl | exact Or.inr rfl) (hK : X.K = K := by rfl)
    (hf : X.fn x = true ∨ X.env.scope.names.lookup x = some .local := by first | exact .inl rfl | exact .inr rfl | assumption) : SG X K [i] (.Name x pos) (gName i) (gvName i) := by
  refine ⟨hK, pg_name hN hi hx hf, fun E F al H σ s s' d v Q r h e k => ?_⟩
  cases e
  refine k _ (r.setIm i h) (fun j hj => ?_) (fun j p o hj hne he => ?_) (by rw [List.length_set]) rfl
  · have ne : i ≠ j := fun z => hj (by rw [z]; exact List.mem_cons_self)
    exact ⟨List.getElem?_set_ne ne, List.getElem?_set_ne ne⟩
  · rcases set_get he with ⟨_, e2, _⟩ | ⟨_, e2⟩
    · cases e2
    · exact hne e2
theorem sgs_nil (hK : X.K = K := by rfl) : SGs X K [] [] gNil gvNil := by
  refine ⟨hK, pgs_nil, fun E F al H σ s s' ds vs Q r h e k => ?_⟩
  cases h with
  | nil => cases e; exact ⟨rfl, k σ r (fun _ _ => ⟨rfl, rfl⟩) (fun _ _ _ h => by simp at h) rfl rfl⟩
  | cons => cases e
theorem sgs_cons {is js : List Nat} {e : Expr} {es : List Expr} {t : TG} {u : TGs} {gv : Gv} {gvs : Gvs} (h1 : SG X K is e t gv) (h2 : SGs X K js es u gvs)
    (hs : (assignEach (e :: es) X.env).map (·.2) = assign e X.env :: (assignEach es X.env).map (·.2) := by rfl) : SGs X K (is ++ js) (e :: es) (gCons t u) (gvCons gv gvs) := by
  obtain ⟨hK, p, g⟩ := h1
  obtain ⟨_, q, k⟩ := h2
  refine ⟨hK, pgs_cons p q hs, fun E F al H σ s s' ds vs Q r h e kk => ?_⟩
  cases h with
  | nil => cases e
  | cons hd hl =>
    rename_i d v ds vs
    have e : (match gv d s with
      | some s1 => gvs ds s1
      | none => none) = some s' := e
    cases h1 : gv d s with
    | none => rw [h1] at e; cases e
    | some s1 =>
      rw [h1] at e
      refine ⟨v, vs, rfl, g E F al H σ s s1 d v _ r hd h1 fun σ1 r1 a1 b1 c1 d1 => ?_⟩
      refine k E F al H σ1 s1 s' ds vs _ r1 hl e fun σ2 r2 a2 b2 c2 d2 => kk σ2 r2 (fun i hi => ?_) (fun i p o hi hne => ?_) (c2.trans c1) (d2.trans d1)
      · have n1 : i ∉ is := fun z => hi (List.mem_append_left _ z)
        have n2 : i ∉ js := fun z => hi (List.mem_append_right _ z)
        exact ⟨(a2 i n2).1.trans (a1 i n1).1, (a2 i n2).2.trans (a1 i n1).2⟩
      · have q1 : s1.env[i]? ≠ some (.ow p o) := by
          by_cases z : i ∈ is
          · exact b1 i p o z hne
          · rw [(a1 i z).2]; exact hne
        by_cases z : i ∈ js
        · exact b2 i p o z q1
        · rw [(a2 i z).2]; exact q1
def gTupX (K : PySem.W.Frag) (n : Nat) (t : TGs) : TG := fun v σ H Q => gTup K n t v σ H Q ∨ gLst K n t v σ H Q
theorem sg_tup {is : List Nat} {es : List Expr} {k : Nat} {t : TGs} {gvs : Gvs} {pos : Pos} (n : Nat) (h : SGs X K is es t gvs) (hc : X.calm = true := by rfl)
    (hn : (assignEach es X.env).length = n := by rfl) (hst : (assignEach es X.env).findIdx? (·.1) = none := by rfl) : SG X K is (.Tuple es k pos) (gTupX K n t) (gvTup n gvs) := by
  obtain ⟨rfl, p, g⟩ := h
  refine ⟨rfl, PG.or (pg_tup hc p hn hst) (pg_lst hc p hn hst), fun E F al H σ s s' d v Q r h e kk => ?_⟩
  unfold gvTup at e
  split at e
  · rename_i ds hd
    split at e
    · rename_i hl
      unfold seqOf at hd
      split at hd <;> (try cases hd)
      · cases h with
        | lst q l z => exact .inr ⟨_, _, rfl, .of (r.sub.here q (fun z => z)), by rw [← l.length]; exact hl, g E F al H σ s s' _ _ Q r l e kk⟩
      · cases h with
        | tup q l z => exact .inl ⟨_, _, rfl, .of (r.sub.here q (fun z => z)), by rw [← l.length]; exact hl, g E F al H σ s s' _ _ Q r l e kk⟩
      · cases h with
        | lz q l z => exact .inr ⟨_, _, rfl, r.sub.seqL q, by rw [← l.length]; exact hl, g E F al H σ s s' _ _ Q r l e kk⟩
      · cases h with
        | tz q l z => exact .inl ⟨_, _, rfl, r.sub.seqT q, by rw [← l.length]; exact hl, g E F al H σ s s' _ _ Q r l e kk⟩
    · cases e
  · cases e
end

/-! ### enumerate(text) -/
def ItS (z : Str) : It := ⟨fun i _ => i < z.cps.size, fun i H v H' => ∃ T c, v = .ref T ∧ H T = none ∧ H' = upd H T (.tup [.int (i : Nat), .str ⟨#[c]⟩]) ∧ z.cps[i]? = some c, fun i _ => z.cps.size ≤ i⟩
theorem turn_enumS {P : Program} {w : World} {K : PySem.W.Frag} {elts : List Expr} {kk : Nat} {tpos : Pos} (z : Str) (t : Tok) (e it : Addr) :
    Turn P w K (.Tuple elts kk tpos) (ItS z) [e, it] e (fun i h => (∃ old, IsEnum h e it ((i : Nat) : Int) old) ∧ h.IsStrIter it (PySem.strIterType z) z t i ∧ e ≠ it ∧ i ≤ z.cps.size) where
  mem := by simp
  obj := fun i h st b hb => by
    obtain ⟨⟨old, he⟩, ⟨o, ho, hc, hd⟩, _⟩ := st
    have e' : b = e ∨ b = it := by simpa using hb
    rcases e' with z | z
    · rw [z]; exact ⟨_, he, fun v q => nomatch q⟩
    · rw [z]; exact ⟨o, ho, fun v q => by rw [hd] at q; cases q⟩
  keep := fun i h h' st k => let ⟨⟨old, he⟩, ⟨o, ho, r⟩, hne⟩ := st; ⟨⟨old, k e (by simp) _ he⟩, ⟨o, k it (by simp) o ho, r⟩, hne⟩
  item := by
    intro X hP hw hK hc i pins s σ H E I hf st hg
    subst hP hw hK
    obtain ⟨⟨old, he⟩, hit, hne, hle⟩ := st
    have hel : e < s.heap.objs.size := Heap.lt_size he
    have hil : it < s.heap.objs.size := by obtain ⟨_, q, _⟩ := hit; exact Heap.lt_size q
    have hh : X.A.in1.handled = none := I.ok.hd hc
    have D : Draws X.prog X.w X.A.in1 it [it] z.cps.size (fun i v => ∃ c u, z.cps[i]? = some c ∧ v = .str ⟨#[c]⟩ u) (fun i h => h.IsStrIter it (PySem.strIterType z) z t i) := by
      unfold PySem.strIterType
      cases ha : z.cps.all (· < 128)
      · exact Draws.strWide hh it z t
      · exact Draws.strAscii hh it z t
    refine wpAny_pyNext_enum_itemD D he hit hg hne (by simpa using hne) fun x h' tk hx ho hit' hT hsz hk => ?_
    obtain ⟨c, u, hcx, rfl⟩ := hx
    refine ⟨_, rfl, wpAny_letOwnedTupleGo_enum (s := { s with heap := h', toks := tk + 1 }) ho fun h'' he' sb => ?_⟩
    have hT2 : h''.get? s.heap.objs.size = some { cls := .type "tuple", data := .seq #[.int i tk, .str ⟨#[c]⟩ u] } := (sb.2 _ (Nat.ne_of_gt hel)).trans hT
    have new : ObjOk X.prog X.w (upd H s.heap.objs.size (.tup [.int (i : Nat), .str ⟨#[c]⟩])) h'' s.heap.objs.size (.tup [.int (i : Nat), .str ⟨#[c]⟩]) :=
      ⟨by show 2 ≤ sizeLine; decide, [.int i tk, .str ⟨#[c]⟩ u], .cons ⟨_, rfl⟩ (.cons ⟨_, rfl⟩ .nil), ⟨_, hT2, rfl, _, rfl⟩⟩
    have I1 : Inv X pins σ (upd H s.heap.objs.size (.tup [.int (i : Nat), .str ⟨#[c]⟩])) { s with heap := h'', toks := tk + 1 } :=
      I.turnedNew (ch := [e, it]) (fun b ob hb q => (sb.2 b (fun z => hb (by simp [z]))).trans (hk b ob (fun z => hb (by simp [z])) (fun z => hb (by simp [z])) q)) hf (Nat.le_refl _) new
    refine ⟨.ref s.heap.objs.size, _, I1, rfl, ⟨_, c, rfl, I.hok.fresh (Nat.le_refl _), rfl, hcx⟩, ⟨⟨.str ⟨#[c]⟩ u, ?_⟩, ?_, hne, hg⟩, fun b hb => ?_⟩
    · have e1 : ((i + 1 : Nat) : Int) = (i : Int) + 1 := by omega
      rw [e1]; exact he'
    · obtain ⟨o2, ho2, r2⟩ := hit'
      exact ⟨o2, (sb.2 it (Ne.symm hne)).trans ho2, r2⟩
    · have hb' : b < s.heap.objs.size := by
        have e' : b = e ∨ b = it := by simpa using hb
        rcases e' with z | z
        · rw [z]; exact hel
        · rw [z]; exact hil
      rw [upd_ne (Nat.ne_of_lt hb')]
      exact (hf b hb).1
  done := by
    intro X hP hw hK hc i pins s σ H E I hf st hg
    subst hP hw hK
    obtain ⟨⟨old, he⟩, hit, hne, hle⟩ := st
    obtain ⟨f0, f1, f2, f3, f4, f5⟩ := hf it (by simp)
    have hh : X.A.in1.handled = none := I.ok.hd hc
    have D : Draws X.prog X.w X.A.in1 it [it] z.cps.size (fun i v => ∃ c u, z.cps[i]? = some c ∧ v = .str ⟨#[c]⟩ u) (fun i h => h.IsStrIter it (PySem.strIterType z) z t i) := by
      unfold PySem.strIterType
      cases ha : z.cps.all (· < 128)
      · exact Draws.strWide hh it z t
      · exact Draws.strAscii hh it z t
    have e : i = z.cps.size := Nat.le_antisymm hle hg
    subst e
    refine wpAny_pyNext_enum_endD D he hit fun h' eb => ⟨rfl, I.turned (t' := s.toks) (fun b o hb q => eb b o hb q) f0 f1 f3 f4 f5⟩
  self := fun A i s Q E st h => let ⟨⟨_, he⟩, _⟩ := st; wpAny_pyIter_enum he h
/-- enumerate of a list or a text -/
def iEnumX (K : PySem.W.Frag) (ta : TA) : TI := fun σ H R => ta σ H fun vs H1 => (∃ a xs, vs = [.ref a] ∧ SqL K H1 a xs ∧ R (Ite K a) H1) ∨ ∃ z, vs = [.str z] ∧ R (ItS z) H1
theorem pi_enumX {X : Cx} {e : Expr} {ta : TA} {p pos tpos : Pos} {elts : List Expr} {kk : Nat} (hg : Gl X "enumerate") (hm : X.mg "enumerate" = none) (ha : PA X [e] ta) (hs : starEach [e] X.env = [(false, eval e X.env)] := by rfl) :
    PI X (.Tuple elts kk tpos) (.Call (.Name "enumerate" p) [e] [] pos) (iEnumX X.K ta) := by
  refine ⟨fun pins s σ H R I h => ?_⟩
  refine PyProof.Rows.Call_ (ld_blt I hg hm PyProof.Rows.boot_enumerate (PyProof.Rows.callWith_type1 (thn (ha.run pos pins s σ H _ I h) fun us s1 ⟨vs, H1, I1, r1, q1⟩ => ?_) hs rfl))
  have own : ∀ b ∈ [s1.heap.objs.size + 1, s1.heap.objs.size], FpOk X pins H1 b := fun b hb => by
    have e' : b = s1.heap.objs.size + 1 ∨ b = s1.heap.objs.size := by simpa using hb
    have hle : s1.heap.objs.size ≤ b := by
      rcases e' with z | z
      · rw [z]; exact Nat.le_add_right _ _
      · rw [z]; exact Nat.le_refl _
    exact I1.fpOk hle (I1.hok.fresh hle)
  rcases q1 with ⟨a, xs, ex, hq, q⟩ | ⟨z, ex, q⟩
  · subst ex
    cases r1 with
    | cons r rr =>
      cases rr
      cases r
      obtain ⟨its, rv, p', hz⟩ := I1.list hq
      refine call_enumerate_list p'.isList fun h' he hit hsz hk => wpAny_pyIter_enum he ?_
      have I2 : Inv X pins σ H1 { s1 with heap := h' } := I1.kept (t' := s1.toks) hk
      exact ⟨s1.heap.objs.size + 1, [s1.heap.objs.size + 1, s1.heap.objs.size], _, _, H1, rfl, I2, turn_enum a (s1.heap.objs.size + 1) s1.heap.objs.size, ⟨⟨.none, he⟩, hit, Nat.succ_ne_self _⟩, own, q⟩
  · subst ex
    cases r1 with
    | cons r rr =>
      cases rr
      obtain ⟨t, rfl⟩ := r
      refine call_enumerate_str fun h' he hit hsz hk => wpAny_pyIter_enum he ?_
      have I2 : Inv X pins σ H1 { s1 with heap := h' } := I1.kept (t' := s1.toks) hk
      exact ⟨s1.heap.objs.size + 1, [s1.heap.objs.size + 1, s1.heap.objs.size], _, _, H1, rfl, I2, turn_enumS z t (s1.heap.objs.size + 1) s1.heap.objs.size, ⟨⟨.none, he⟩, hit, Nat.succ_ne_self _, Nat.zero_le _⟩, own, q⟩

/-! ### what is walked -/
/-- the iterator J gives these data -/
structure ItR (K : PySem.W.Frag) (al0 : List Addr) (F0 : Hp) (J : It) (ds : List D) : Prop where
  go : ∀ (i : Nat) (E : Ent) (F : Hp) (al : List Addr) (H : Hp) (σ : L2.St) (s : S), i < ds.length → Rel K E F al H σ s → Gr al0 F0 al F → J.go i H
  stop : ∀ (E : Ent) (F : Hp) (al : List Addr) (H : Hp) (σ : L2.St) (s : S), Rel K E F al H σ s → Gr al0 F0 al F → J.stop ds.length H
  yld : ∀ (i : Nat) (d : D) (E : Ent) (F : Hp) (al : List Addr) (H : Hp) (σ : L2.St) (s : S) (x : V) (H' : Hp), ds[i]? = some d → Rel K E F al H σ s → Gr al0 F0 al F → J.yld i H x H' →
    ∃ F', Rel K E F' al H' σ s ∧ Stp σ s s F al H F' al H' ∧ (∀ a o, H a = some o → H' a = some o) ∧ Dat K al F' d x
theorem ItR.mono {K : PySem.W.Frag} {al0 al1 : List Addr} {F0 F1 : Hp} {J : It} {ds : List D} (h : ItR K al0 F0 J ds) (g : Gr al0 F0 al1 F1) : ItR K al1 F1 J ds :=
  ⟨fun i E F al H σ s a b c => h.go i E F al H σ s a b (g.trans c), fun E F al H σ s b c => h.stop E F al H σ s b (g.trans c), fun i d E F al H σ s x H' a b c => h.yld i d E F al H σ s x H' a b (g.trans c)⟩
abbrev IR (K : PySem.W.Frag) : Hp → List Addr → Hp → Hp → S → It → List D → Prop := fun _ al F _ _ J ds => ItR K al F J ds
theorem IR.low {K : PySem.W.Frag} : Low (IR K) := fun _ _ _ _ _ _ _ _ _ r => r
def GoodI (K : PySem.W.Frag) (W : Wx) (wi : TI) (ev : M (List D)) : Prop := ∀ (E : Ent) (F : Hp) (al : List Addr) (H : Hp) (σ : L2.St) (s : S), Rel K E F al H σ s → Sat K E W (IR K) F al H σ s (wi σ H) (ev s)
def SI (X : Cx) (K : PySem.W.Frag) (W : Wx) (tg iter : Expr) (wi : TI) (ev : M (List D)) : Prop := X.K = K ∧ PI X tg iter wi ∧ GoodI K W wi ev
def pick {α β : Type} (f : α → Option β) (a : α) : M β := fun s => match f a with
  | some b => .ok b s
  | none => .no
/-- a sequence or a text, item by item -/
def itOf : D → Option (List D)
  | .str z => if z.length ≤ sizeLine then some (z.cps.toList.map fun c => .str ⟨#[c]⟩) else none
  | d => seqOf d
def evIt (m : M Va) : M (List D) := (m >>= esc) >>= fun d s => match itOf d with
  | some ds => .ok ds s
  | none => .no
def iAny (K : PySem.W.Frag) (te : TE) : TI := fun σ H R => te σ H fun x H1 => (∃ a, x = .ref a ∧ (∃ xs, SqL K H1 a xs) ∧ R (Itl K a) H1) ∨ (∃ a, x = .ref a ∧ (∃ xs, SqT K H1 a xs) ∧ R (Itt K a) H1) ∨ (∃ z, x = .str z ∧ R (Its z) H1)
section
variable {X : Cx} {W : Wx} {K : PySem.W.Frag}
theorem pi_any {tg l : Expr} {tl : TE} (hl : PE X l tl) : PI X tg l (iAny X.K tl) := by
  refine ⟨fun pins s σ H R I h => ?_⟩
  refine thn (hl.run pins s σ H _ I h) fun v s1 ⟨x, H1, I1, r1, q1⟩ => ?_
  rcases q1 with ⟨a, e, ⟨xs, hq⟩, q⟩ | ⟨a, e, ⟨xs, hq⟩, q⟩ | ⟨z, e, q⟩
  · subst e
    cases r1
    obtain ⟨its, rv, p, hz⟩ := I1.list hq
    exact wpAny_pyIter_list p.isList (pi_one (tk := s1.toks) I1 _ (turn_list a _) ⟨_, Heap.get?_push_size _ rfl, rfl, rfl⟩ q)
  · subst e
    cases r1
    obtain ⟨its, rv, p, hz⟩ := I1.tuple hq
    exact wpAny_pyIter_tuple (show s1.heap.IsTuple a its.toArray from p) (pi_one (tk := s1.toks) I1 _ (turn_tuple a _) ⟨_, Heap.get?_push_size _ rfl, rfl, rfl⟩ q)
  · subst e
    obtain ⟨t, rfl⟩ := r1
    cases ha : z.cps.all (· < 128)
    · exact PySem.wpAny_pyIter_wide ha (pi_one (tk := s1.toks) I1 _ (turn_str _ z t "str_iterator" (.inr rfl)) ⟨_, Heap.get?_push_size _ rfl, rfl, rfl⟩ q)
    · exact PySem.wpAny_pyIter_ascii ha (pi_one (tk := s1.toks) I1 _ (turn_str _ z t "str_ascii_iterator" (.inl rfl)) ⟨_, Heap.get?_push_size _ rfl, rfl, rfl⟩ q)
theorem itr_walk {J : It} {n : Nat} {G : Hp → Prop} {Y : Nat → Hp → V → Hp → Prop} (w : Walk J n G Y) {al0 : List Addr} {F0 : Hp} {ds : List D} (hn : ds.length = n) (hG : ∀ (F : Hp) (al : List Addr) (H : Hp), Sub F H → Gr al0 F0 al F → G H)
    (hY : ∀ (i : Nat) (d : D) (E : Ent) (F : Hp) (al : List Addr) (H : Hp) (σ : L2.St) (s : S) (x : V) (H' : Hp), ds[i]? = some d → Rel K E F al H σ s → Gr al0 F0 al F → Y i H x H' →
      ∃ F', Rel K E F' al H' σ s ∧ Stp σ s s F al H F' al H' ∧ (∀ a o, H a = some o → H' a = some o) ∧ Dat K al F' d x) : ItR K al0 F0 J ds := by
  subst hn
  refine ⟨fun i E F al H σ s hi r g => w.goes i H hi (hG F al H r.sub g), fun E F al H σ s r g => w.stops H (hG F al H r.sub g), fun i d E F al H σ s x H' hd r g y => ?_⟩
  exact hY i d E F al H σ s x H' hd r g (w.yields i H x H' (List.getElem?_eq_some_iff.mp hd).1 (hG F al H r.sub g) y)
theorem y_at {al0 : List Addr} {F0 : Hp} {ds : List D} {vs : List V} (l : DatL K al0 F0 ds vs) : ∀ (i : Nat) (d : D) (E : Ent) (F : Hp) (al : List Addr) (H : Hp) (σ : L2.St) (s : S) (x : V) (H' : Hp), ds[i]? = some d → Rel K E F al H σ s → Gr al0 F0 al F → YAt vs i H x H' →
    ∃ F', Rel K E F' al H' σ s ∧ Stp σ s s F al H F' al H' ∧ (∀ a o, H a = some o → H' a = some o) ∧ Dat K al F' d x := fun i d E F al H σ s x H' hd r g y => by
  obtain ⟨rfl, hx⟩ := y
  obtain ⟨v, hv, dv⟩ := l.getD (i := i) hd
  rw [hx] at hv
  cases hv
  exact ⟨F, r, .refl, fun _ _ h => h, dv.mono g⟩
theorem two_le {a b : D} : [a, b].length ≤ sizeLine := by show 2 ≤ sizeLine; decide
/-- new pairs -/
theorem y_pair {al0 : List Addr} {F0 : Hp} {ds : List D} {f g : Nat → Option V} (hp : ∀ (i : Nat) (d : D) (x y : V), ds[i]? = some d → f i = some x → g i = some y → ∃ a b, d = .tup [a, b] ∧ Dat K al0 F0 a x ∧ Dat K al0 F0 b y) : ∀ (i : Nat) (d : D) (E : Ent) (F : Hp) (al : List Addr) (H : Hp) (σ : L2.St) (s : S) (x : V) (H' : Hp), ds[i]? = some d → Rel K E F al H σ s → Gr al0 F0 al F → YPair f g i H x H' →
    ∃ F', Rel K E F' al H' σ s ∧ Stp σ s s F al H F' al H' ∧ (∀ a o, H a = some o → H' a = some o) ∧ Dat K al F' d x := fun i d E F al H σ s x H' hd r gr y => by
  obtain ⟨T, u, w, rfl, hT, rfl, hu, hw⟩ := y
  obtain ⟨a, b, rfl, da, db⟩ := hp i d u w hd hu hw
  have hf := r.sub.free hT
  have g2 : Gr al F al (upd F T (.tup [u, w])) := .new hf
  exact ⟨_, r.new hT, .new hT hf, fun b o h => by rw [upd_ne (ne_of_none h hT)]; exact h, .tup upd_same (.cons ((da.mono gr).mono g2) (.cons ((db.mono gr).mono g2) .nil)) two_le⟩
theorem itr_str {al0 : List Addr} {F0 : Hp} {z : Str} : ItR K al0 F0 (Its z) (z.cps.toList.map fun c => .str ⟨#[c]⟩) := by
  refine itr_walk walk_str (by simp) (fun _ _ _ _ _ => True.intro) fun i d E F al H σ s x H' hd r g y => ?_
  obtain ⟨rfl, c, hc, rfl⟩ := y
  simp only [List.getElem?_map, Array.getElem?_toList, hc, Option.map_some, Option.some.injEq] at hd
  subst hd
  exact ⟨F, r, .refl, fun _ _ h => h, .str _⟩
theorem si_any {tg e : Expr} {ev : M Va} (h : SE X K W e th ev) : SI X K W tg e (iAny K th) (evIt ev) := by
  obtain ⟨rfl, p, g⟩ := h
  refine ⟨rfl, pi_any p, fun E F al H σ s rel => ?_⟩
  refine Sat.bind (u := fun x H1 R => (∃ a, x = .ref a ∧ (∃ xs, SqL X.K H1 a xs) ∧ R (Itl X.K a) H1) ∨ (∃ a, x = .ref a ∧ (∃ xs, SqT X.K H1 a xs) ∧ R (Itt X.K a) H1) ∨ (∃ z, x = .str z ∧ R (Its z) H1)) IR.low (g E F al H σ s rel).esc fun d s1 w F1 al1 H1 _ rel1 st1 v1 => ?_
  cases hd : itOf d with
  | none => exact True.intro
  | some ds =>
    refine fun R hR => ?_
    have v1 : Dat X.K al1 F1 d w := v1
    unfold itOf at hd
    split at hd
    · split at hd
      · rename_i z hz
        cases hd
        cases v1
        exact .inr (.inr ⟨_, rfl, hR _ F1 al1 H1 rel1 .refl itr_str⟩)
      · cases hd
    · unfold seqOf at hd
      split at hd <;> (try cases hd)
      · cases v1 with
        | lst q l z => exact .inl ⟨_, rfl, ⟨_, .of (rel1.sub.here q fun z => z)⟩, hR _ F1 al1 H1 rel1 .refl (itr_walk walk_list l.length (fun F al H sb gr => .of (sb.here (gr.f _ _ q) fun z => z)) (y_at l))⟩
      · cases v1 with
        | tup q l z => exact .inr (.inl ⟨_, rfl, ⟨_, .of (rel1.sub.here q fun z => z)⟩, hR _ F1 al1 H1 rel1 .refl (itr_walk walk_tup l.length (fun F al H sb gr => .of (sb.here (gr.f _ _ q) fun z => z)) (y_at l))⟩)
      · cases v1 with
        | lz q l z => exact .inl ⟨_, rfl, ⟨_, rel1.sub.seqL q⟩, hR _ F1 al1 H1 rel1 .refl (itr_walk walk_list l.length (fun F al H sb gr => sb.seqL (gr.seqL q)) (y_at l))⟩
      · cases v1 with
        | tz q l z => exact .inr (.inl ⟨_, rfl, ⟨_, rel1.sub.seqT q⟩, hR _ F1 al1 H1 rel1 .refl (itr_walk walk_tup l.length (fun F al H sb gr => sb.seqT (gr.seqT q)) (y_at l))⟩)
/-- lo, lo + 1, .. -/
def rngD (lo : Int) (n : Nat) : List D := (List.range n).map fun (i : Nat) => .int (lo + i)
theorem itr_range {al0 : List Addr} {F0 : Hp} {lo : Int} {n : Nat} : ItR K al0 F0 (Itr lo n) (rngD lo n) := by
  refine itr_walk walk_range (by simp [rngD]) (fun _ _ _ _ _ => True.intro) fun i d E F al H σ s x H' hd r g y => ?_
  obtain ⟨rfl, rfl⟩ := y
  have hi : i < n := by simpa [rngD] using (List.getElem?_eq_some_iff.mp hd).1
  simp only [rngD, List.getElem?_map, List.getElem?_range hi, Option.map_some, Option.some.injEq] at hd
  subst hd
  exact ⟨F, r, .refl, fun _ _ h => h, .int _⟩
def rng1 : List D → Option (List D)
  | [.int j] => if -(2 ^ 62) ≤ j ∧ j < 2 ^ 62 then some (rngD 0 j.toNat) else none
  | _ => none
def rng2 : List D → Option (List D)
  | [.int i, .int j] => if -(2 ^ 62) ≤ i ∧ i < 2 ^ 62 ∧ -(2 ^ 62) ≤ j ∧ j < 2 ^ 62 then some (rngD i (j - i).toNat) else none
  | _ => none
def evRng1 (m : M (List D)) : M (List D) := m >>= pick rng1
def evRng2 (m : M (List D)) : M (List D) := m >>= pick rng2
theorem si_range1 {tg a : Expr} {evs : M (List D)} {p pos : Pos} (h : SA X K W [a] th evs) (hg : Gl X "range" := by rfl) (hm : X.mg "range" = none := by rfl) (hs : starEach [a] X.env = [(false, eval a X.env)] := by rfl) : SI X K W tg (.Call (.Name "range" p) [a] [] pos) (iRng1 th) (evRng1 evs) := by
  obtain ⟨rfl, pa, g⟩ := h
  refine ⟨rfl, pi_range1 hg hm pa hs, fun E F al H σ s rel => ?_⟩
  refine Sat.bind (u := fun vs H1 R => ∃ j : Int, vs = [.int j] ∧ -(2 ^ 62) ≤ j ∧ j < 2 ^ 62 ∧ R (Itr 0 j.toNat) H1) IR.low (g E F al H σ s rel) fun ds s1 ws F1 al1 H1 _ rel1 st1 v1 => ?_
  unfold pick
  cases hp : rng1 ds with
  | none => exact True.intro
  | some ys =>
    unfold rng1 at hp
    split at hp
    · split at hp
      · rename_i j _ hj
        cases hp
        have v1 : DatL X.K al1 F1 [.int j] ws := v1
        obtain _ | ⟨h1, h2⟩ := v1
        cases h1; cases h2
        exact fun R hR => ⟨j, rfl, hj.1, hj.2, hR _ F1 al1 H1 rel1 .refl itr_range⟩
      · cases hp
    · cases hp
theorem si_range2 {tg a b : Expr} {evs : M (List D)} {p pos : Pos} (h : SA X K W [a, b] th evs) (hg : Gl X "range" := by rfl) (hm : X.mg "range" = none := by rfl) (hs : starEach [a, b] X.env = [(false, eval a X.env), (false, eval b X.env)] := by rfl) (hs2 : starEach [b] X.env = [(false, eval b X.env)] := by rfl) : SI X K W tg (.Call (.Name "range" p) [a, b] [] pos) (iRng2 th) (evRng2 evs) := by
  obtain ⟨rfl, pa, g⟩ := h
  refine ⟨rfl, pi_range2 hg hm pa hs hs2, fun E F al H σ s rel => ?_⟩
  refine Sat.bind (u := fun vs H1 R => ∃ i j : Int, vs = [.int i, .int j] ∧ (-(2 ^ 62) ≤ i ∧ i < 2 ^ 62 ∧ -(2 ^ 62) ≤ j ∧ j < 2 ^ 62) ∧ R (Itr i (j - i).toNat) H1) IR.low (g E F al H σ s rel) fun ds s1 ws F1 al1 H1 _ rel1 st1 v1 => ?_
  unfold pick
  cases hp : rng2 ds with
  | none => exact True.intro
  | some ys =>
    unfold rng2 at hp
    split at hp
    · split at hp
      · rename_i i j _ hj
        cases hp
        have v1 : DatL X.K al1 F1 [.int i, .int j] ws := v1
        obtain _ | ⟨h1, h2⟩ := v1
        obtain _ | ⟨h2, h3⟩ := h2
        cases h1; cases h2; cases h3
        exact fun R hR => ⟨i, j, rfl, hj, hR _ F1 al1 H1 rel1 .refl itr_range⟩
      · cases hp
    · cases hp
def enumD (ds : List D) : List D := (List.range ds.length).zipWith (fun (i : Nat) d => .tup [.int i, d]) ds
def enum1 : List D → Option (List D)
  | [.lst xs] => some (enumD xs)
  | [.lz xs] => some (enumD xs)
  | [.str z] => if z.length ≤ sizeLine then some (enumD (z.cps.toList.map fun c => .str ⟨#[c]⟩)) else none
  | _ => none
def evEnum (m : M (List D)) : M (List D) := m >>= pick enum1
theorem itr_enum {al0 : List Addr} {F0 : Hp} {a : Addr} {ds : List D} {vs : List V} (q : SqL K F0 a vs) (l : DatL K al0 F0 ds vs) : ItR K al0 F0 (Ite K a) (enumD ds) := by
  refine itr_walk (walk_enum (xs := vs)) (by simp [enumD, l.length]) (fun F al H sb gr => sb.seqL (gr.seqL q)) (y_pair fun i d x y hd hx hy => ?_)
  cases hx
  obtain ⟨b, hb, db⟩ := l.get hy
  have hi : i < ds.length := (List.getElem?_eq_some_iff.mp hb).1
  simp only [enumD, List.getElem?_zipWith, List.getElem?_range hi, hb, Option.some.injEq] at hd
  exact ⟨_, _, hd.symm, .int _, db⟩
theorem itr_enumS {al0 : List Addr} {F0 : Hp} {z : Str} : ItR K al0 F0 (ItS z) (enumD (z.cps.toList.map fun c => .str ⟨#[c]⟩)) := by
  have hl : (enumD (z.cps.toList.map fun c => .str ⟨#[c]⟩)).length = z.cps.size := by simp [enumD]
  refine ⟨fun i E F al H σ s hi r g => (by rw [hl] at hi; exact hi), fun E F al H σ s r g => (Nat.le_of_eq hl.symm), fun i d E F al H σ s x H' hd r gr y => ?_⟩
  obtain ⟨T, c, rfl, hT, rfl, hc⟩ := y
  have hi : i < z.cps.size := by rw [← hl]; exact (List.getElem?_eq_some_iff.mp hd).1
  simp only [enumD, List.getElem?_zipWith, List.length_map, Array.length_toList, List.getElem?_range hi, List.getElem?_map, Array.getElem?_toList, hc, Option.map_some, Option.some.injEq] at hd
  subst hd
  have hf := r.sub.free hT
  exact ⟨_, r.new hT, .new hT hf, fun b o h => by rw [upd_ne (ne_of_none h hT)]; exact h, .tup upd_same (.cons (.int _) (.cons (.str _) .nil)) two_le⟩
theorem si_enum {e : Expr} {elts : List Expr} {kk : Nat} {evs : M (List D)} {p pos tpos : Pos} (h : SA X K W [e] th evs) (hg : Gl X "enumerate" := by rfl) (hm : X.mg "enumerate" = none := by rfl) (hs : starEach [e] X.env = [(false, eval e X.env)] := by rfl) : SI X K W (.Tuple elts kk tpos) (.Call (.Name "enumerate" p) [e] [] pos) (iEnumX K th) (evEnum evs) := by
  obtain ⟨rfl, pa, g⟩ := h
  refine ⟨rfl, pi_enumX hg hm pa hs, fun E F al H σ s rel => ?_⟩
  refine Sat.bind (u := fun vs H1 R => (∃ a xs, vs = [.ref a] ∧ SqL X.K H1 a xs ∧ R (Ite X.K a) H1) ∨ ∃ z, vs = [.str z] ∧ R (ItS z) H1) IR.low (g E F al H σ s rel) fun ds s1 ws F1 al1 H1 _ rel1 st1 v1 => ?_
  have v1 : DatL X.K al1 F1 ds ws := v1
  unfold pick
  cases hp : enum1 ds with
  | none => exact True.intro
  | some ys =>
    unfold enum1 at hp
    split at hp
    · rename_i xs
      cases hp
      obtain _ | ⟨h1, h2⟩ := v1
      cases h2
      cases h1 with
      | lst q l z => exact fun R hR => .inl ⟨_, _, rfl, .of (rel1.sub.here q fun z => z), hR _ F1 al1 H1 rel1 .refl (itr_enum (.of q) l)⟩
    · rename_i xs
      cases hp
      obtain _ | ⟨h1, h2⟩ := v1
      cases h2
      cases h1 with
      | lz q l z => exact fun R hR => .inl ⟨_, _, rfl, rel1.sub.seqL q, hR _ F1 al1 H1 rel1 .refl (itr_enum q l)⟩
    · split at hp
      · rename_i z hz
        cases hp
        obtain _ | ⟨h1, h2⟩ := v1
        cases h2
        cases h1
        exact fun R hR => .inr ⟨_, rfl, hR _ F1 al1 H1 rel1 .refl itr_enumS⟩
      · cases hp
    · cases hp
/-- zip -/
def zipD (xs ys : List D) : List D := xs.zipWith (fun a b => .tup [a, b]) ys
def lOf : D → Option (List D)
  | .lst xs => some xs
  | .lz xs => some xs
  | _ => none
def tOf : D → Option (List D)
  | .tup xs => some xs
  | .tz xs => some xs
  | _ => none
theorem lOf_ok {al : List Addr} {F : Hp} {d : D} {w : V} {xs : List D} (v : Dat K al F d w) (h : lOf d = some xs) : ∃ a vs, w = .ref a ∧ SqL K F a vs ∧ DatL K al F xs vs := by
  unfold lOf at h
  split at h <;> cases h
  · cases v with
    | lst q l z => exact ⟨_, _, rfl, .of q, l⟩
  · cases v with
    | lz q l z => exact ⟨_, _, rfl, q, l⟩
theorem tOf_ok {al : List Addr} {F : Hp} {d : D} {w : V} {xs : List D} (v : Dat K al F d w) (h : tOf d = some xs) : ∃ a vs, w = .ref a ∧ SqT K F a vs ∧ DatL K al F xs vs := by
  unfold tOf at h
  split at h <;> cases h
  · cases v with
    | tup q l z => exact ⟨_, _, rfl, .of q, l⟩
  · cases v with
    | tz q l z => exact ⟨_, _, rfl, q, l⟩
def zip1 : List D → Option (List D)
  | [a, b] => (match lOf a, lOf b with
    | some xs, some ys => some (zipD xs ys)
    | _, _ => (match tOf a, tOf b with
      | some xs, some ys => some (zipD xs ys)
      | _, _ => none))
  | _ => none
def evZip (m : M (List D)) : M (List D) := m >>= pick zip1
theorem zip_get {xs ys : List D} {vs us : List V} {al0 : List Addr} {F0 : Hp} (l1 : DatL K al0 F0 xs vs) (l2 : DatL K al0 F0 ys us) (i : Nat) (d : D) (x y : V) (hd : (zipD xs ys)[i]? = some d) (hx : vs[i]? = some x) (hy : us[i]? = some y) : ∃ a b, d = .tup [a, b] ∧ Dat K al0 F0 a x ∧ Dat K al0 F0 b y := by
  obtain ⟨a, ha, da⟩ := l1.get hx
  obtain ⟨b, hb, db⟩ := l2.get hy
  simp only [zipD, List.getElem?_zipWith, ha, hb, Option.some.injEq] at hd
  exact ⟨a, b, hd.symm, da, db⟩
theorem walk_zipT {a b : Addr} {xs ys : List V} {n : Nat} (hn : n = min xs.length ys.length) : Walk (RZ.ItzT K a b) n (fun H => SqT K H a xs ∧ SqT K H b ys) (YPair (fun i => xs[i]?) (fun i => ys[i]?)) := by
  subst hn
  refine ⟨fun i _ hi q => ?_, fun _ q => ⟨xs, ys, q.1, q.2, by omega⟩, fun i H v H' _ q y => ?_⟩
  · have h1 : i < xs.length := by omega
    have h2 : i < ys.length := by omega
    exact ⟨xs, ys, xs[i], ys[i], q.1, q.2, by simp [h1], by simp [h2]⟩
  · obtain ⟨T, x, z, h1, h2, h3, h4, h5⟩ := y
    exact ⟨T, x, z, h1, h2, h3, h4 xs q.1, h5 ys q.2⟩
theorem si_zip {e e2 : Expr} {elts : List Expr} {kk : Nat} {evs : M (List D)} {p pos tpos : Pos} (h : SA X K W [e, e2] th evs) (hg : Gl X "zip" := by rfl) (hm : X.mg "zip" = none := by rfl)
    (hs : starEach [e, e2] X.env = (false, eval e X.env) :: starEach [e2] X.env := by rfl) (hpl : (backTo pos (starEach [e2] X.env)).any (·.1) = false := by rfl) : SI X K W (.Tuple elts kk tpos) (.Call (.Name "zip" p) [e, e2] [] pos) (RZ.iZipA K th) (evZip evs) := by
  obtain ⟨rfl, pa, g⟩ := h
  refine ⟨rfl, RZ.pi_zipA hg hm pa hs hpl, fun E F al H σ s rel => ?_⟩
  refine Sat.bind (u := fun vs H1 R => ∃ a b xs ys, vs = [.ref a, .ref b] ∧ ((SqL X.K H1 a xs ∧ SqL X.K H1 b ys ∧ R (Itz X.K a b) H1) ∨ (SqT X.K H1 a xs ∧ SqT X.K H1 b ys ∧ R (RZ.ItzT X.K a b) H1))) IR.low (g E F al H σ s rel) fun ds s1 ws F1 al1 H1 _ rel1 st1 v1 => ?_
  have v1 : DatL X.K al1 F1 ds ws := v1
  unfold pick
  cases hp : zip1 ds with
  | none => exact True.intro
  | some zs =>
    unfold zip1 at hp
    split at hp
    · rename_i a b
      obtain _ | ⟨h1, h2⟩ := v1
      obtain _ | ⟨h2, h3⟩ := h2
      cases h3
      split at hp
      · rename_i xs ys ha hb
        cases hp
        obtain ⟨p1, vs, rfl, q1, l1⟩ := lOf_ok h1 ha
        obtain ⟨p2, us, rfl, q2, l2⟩ := lOf_ok h2 hb
        exact fun R hR => ⟨p1, p2, vs, us, rfl, .inl ⟨rel1.sub.seqL q1, rel1.sub.seqL q2, hR _ F1 al1 H1 rel1 .refl (itr_walk (walk_zip rfl) (by simp [zipD, l1.length, l2.length]) (fun F al H sb gr => ⟨sb.seqL (gr.seqL q1), sb.seqL (gr.seqL q2)⟩) (y_pair fun i d x y => zip_get l1 l2 i d x y))⟩⟩
      · split at hp
        · rename_i xs ys ha hb
          cases hp
          obtain ⟨p1, vs, rfl, q1, l1⟩ := tOf_ok h1 ha
          obtain ⟨p2, us, rfl, q2, l2⟩ := tOf_ok h2 hb
          exact fun R hR => ⟨p1, p2, vs, us, rfl, .inr ⟨rel1.sub.seqT q1, rel1.sub.seqT q2, hR _ F1 al1 H1 rel1 .refl (itr_walk (walk_zipT rfl) (by simp [zipD, l1.length, l2.length]) (fun F al H sb gr => ⟨sb.seqT (gr.seqT q1), sb.seqT (gr.seqT q2)⟩) (y_pair fun i d x y => zip_get l1 l2 i d x y))⟩⟩
        · cases hp
    · cases hp
end
end VI
end
section
set_option Elab.async false
set_option linter.all false
set_option maxRecDepth 100000
set_option maxHeartbeats 2000000
/-! V10: for, while, list comprehensions. -/
namespace VI
open PySem PySem.Spec L2

/-! ### for -/
def forL (gv : Gv) (body : Sx) : List D → Sx
  | [], s => .nx s
  | d :: ds, s => match gv d s with
    | some s1 => (match body s1 with
      | .nx s2 => forL gv body ds s2
      | .ct s2 => forL gv body ds s2
      | .bk s2 => .nx s2
      | o => o)
    | none => .no
def svFor (it : M (List D)) (gv : Gv) (body : Sx) : Sx := svLet it fun ds s => forL gv body ds s
/-! ### while -/
def whileN (c : M Bool) (body : Sx) : Nat → Sx
  | 0, _ => .no
  | n + 1, s => match c s with
    | .ok true s1 => (match body s1 with
      | .nx s2 => whileN c body n s2
      | .ct s2 => whileN c body n s2
      | .bk s2 => .nx s2
      | o => o)
    | .ok false s1 => .nx s1
    | .ex x s1 => .ex x s1
    | .no => .no
open Classical in
noncomputable def svWhile (c : M Bool) (body : Sx) : Sx := fun s => if h : ∃ n, whileN c body n s ≠ .no then whileN c body (Classical.choose h) s else .no
theorem whileN_mono {c : M Bool} {body : Sx} : ∀ (n m : Nat) (s : S), n ≤ m → whileN c body n s ≠ .no → whileN c body m s = whileN c body n s
  | 0, _, _, _, h => absurd rfl h
  | n + 1, 0, _, h, _ => absurd h (Nat.not_succ_le_zero n)
  | n + 1, m + 1, s, hle, h => by
    unfold whileN at h ⊢
    cases hc : c s with
    | no => rfl
    | ex x s1 => rfl
    | ok b s1 =>
      rw [hc] at h
      cases b with
      | false => rfl
      | true =>
        cases hb : body s1 with
        | nx s2 => simp only [hb] at h ⊢; exact whileN_mono n m s2 (Nat.le_of_succ_le_succ hle) h
        | ct s2 => simp only [hb] at h ⊢; exact whileN_mono n m s2 (Nat.le_of_succ_le_succ hle) h
        | _ => simp only [hb]
theorem svWhile_eq {c : M Bool} {body : Sx} {n : Nat} {s : S} {o : Ot} (h : whileN c body n s = o) (hn : o ≠ .no) : svWhile c body s = o := by
  have hex : ∃ n, whileN c body n s ≠ .no := ⟨n, by rw [h]; exact hn⟩
  unfold svWhile
  rw [dif_pos hex]
  have hm := Classical.choose_spec hex
  generalize Classical.choose hex = m at hm
  rcases Nat.le_total n m with z | z
  · rw [whileN_mono n m s z (by rw [h]; exact hn), h]
  · rw [← whileN_mono m n s z hm, h]
section
variable {X : Cx} {W : Wx} {K : PySem.W.Frag}
theorem ss_for {is : List Nat} {tg iter : Expr} {body : List Stmt} {wi : TI} {ev : M (List D)} {g : TG} {gv : Gv} {tb : TS} {sb : Sx} {pos : Pos} (hi : SI X K W tg iter wi ev) (hg : SG X K is tg g gv) (hb : SSs X K W body tb sb) (hp : PassesOwn (model X.prog X.w) X.A X.env X.xe) (hc : X.calm = true := by rfl)
    (hs : ∀ x, foldedSetIterable iter X.env x = pure x := by intro _; rfl) : SS X K W (.For tg iter body [] pos) (tFor wi g tb) (svFor ev gv sb) := by
  obtain ⟨hK, pi, gi⟩ := hi
  obtain ⟨_, pg, gg⟩ := hg
  obtain ⟨_, pb, gb⟩ := hb
  refine ⟨hK, ps_for hp hc pi pg pb hs, fun E F al H σ s D rel w => ?_⟩
  refine Sat.want (k := fun ds s => forL gv sb ds s) (m := ev) (u := fun J H1 => ∃ W : Nat → Nat → L2.St → Hp → Prop, (∃ m, W 0 m σ H1) ∧ ∀ i m σ H, W i m σ H →
    (J.stop i H ∧ D.nx σ H) ∨ (J.go i H ∧ ∃ N : L2.St → Hp → Prop, (∀ σ' H', N σ' H' → ∃ m', m' < m ∧ W (i + 1) m' σ' H') ∧ ∀ x H', J.yld i H x H' → g x σ H' fun σ2 H2 => tb { D with nx := N, ct := N, bk := D.nx } σ2 H2)) (gi E F al H σ s rel) w (fun ds s1 J F1 al1 H1 hm r gr ir w1 => ?_) fun _ _ _ _ _ h => h
  have ir : ItR K al1 F1 J ds := ir
  refine ⟨fun i m σ H => m = ds.length - i ∧ i ≤ ds.length ∧ ∃ F al s, Rel K E F al H σ s ∧ Gr al1 F1 al F ∧ Wants K E W al F D (forL gv sb (ds.drop i) s), ⟨ds.length, by simp, Nat.zero_le _, F1, al1, s1, r, .refl, by simpa using w1⟩, ?_⟩
  rintro i m σ H ⟨rfl, hi, F2, al2, s2, r2, g2, w2⟩
  by_cases hlt : i < ds.length
  · refine .inr ⟨ir.go i E F2 al2 H σ s2 hlt r2 g2, fun σ H => ∃ F al s, Rel K E F al H σ s ∧ Gr al1 F1 al F ∧ Wants K E W al F D (forL gv sb (ds.drop (i + 1)) s), fun σ' H' p' => ⟨ds.length - (i + 1), by omega, rfl, hlt, p'⟩, fun x H' y => ?_⟩
    obtain ⟨F3, r3, st3, _, d3⟩ := ir.yld i ds[i] E F2 al2 H σ s2 x H' (List.getElem?_eq_getElem hlt) r2 g2 y
    rw [List.drop_eq_getElem_cons hlt] at w2
    have w2 : Wants K E W al2 F2 D (match gv ds[i] s2 with
      | some s1 => (match sb s1 with
        | .nx s2 => forL gv sb (ds.drop (i + 1)) s2
        | .ct s2 => forL gv sb (ds.drop (i + 1)) s2
        | .bk s2 => .nx s2
        | o => o)
      | none => .no) := w2
    cases hgv : gv ds[i] s2 with
    | none => rw [hgv] at w2; exact w2.elim
    | some s4 =>
      rw [hgv] at w2
      refine gg E F3 al2 H' σ s2 s4 ds[i] x _ r3 d3 hgv fun σ4 r4 _ _ _ _ => ?_
      refine gb E F3 al2 H' σ4 s4 _ r4 ?_
      have w2 : Wants K E W al2 F2 D (match sb s4 with
        | .nx s2 => forL gv sb (ds.drop (i + 1)) s2
        | .ct s2 => forL gv sb (ds.drop (i + 1)) s2
        | .bk s2 => .nx s2
        | o => o) := w2
      cases hbs : sb s4 with
      | nx s5 => rw [hbs] at w2; exact fun F' al' H' σ' r' gr' => ⟨F', al', s5, r', (g2.trans st3.gr).trans gr', w2.gr (st3.gr.trans gr')⟩
      | ct s5 => rw [hbs] at w2; exact fun F' al' H' σ' r' gr' => ⟨F', al', s5, r', (g2.trans st3.gr).trans gr', w2.gr (st3.gr.trans gr')⟩
      | bk s5 =>
        rw [hbs] at w2
        exact fun F' al' H' σ' r' gr' => w2 F' al' H' σ' r' (st3.gr.trans gr')
      | rt v s5 =>
        rw [hbs] at w2
        exact fun w F' al' H' σ' r' gr' => w2 w F' al' H' σ' r' (st3.gr.trans gr')
      | ex x s5 =>
        rw [hbs] at w2
        exact fun c d F' al' H' σ' r' gr' => w2 c d F' al' H' σ' r' (st3.gr.trans gr')
      | no => rw [hbs] at w2; exact w2.elim
  · have e : i = ds.length := by omega
    subst e
    rw [List.drop_length] at w2
    exact .inl ⟨ir.stop E F2 al2 H σ s2 r2 g2, w2 F2 al2 H σ r2 .refl⟩
theorem ss_while {c : Expr} {body : List Stmt} {tc : TT} {tb : TS} {ec : M Bool} {sb : Sx} {pos : Pos} (hcnd : ST X K W c tc ec) (hb : SSs X K W body tb sb) (hp : PassesOwn (model X.prog X.w) X.A X.env X.xe) : SS X K W (.While c body [] pos) (tWhile tc tb) (svWhile ec sb) := by
  obtain ⟨hK, pc, gc⟩ := hcnd
  obtain ⟨_, pb, gb⟩ := hb
  refine ⟨hK, ps_while hp pc pb, fun E F al H σ s D rel w => ?_⟩
  unfold svWhile at w
  split at w
  · rename_i hex
    generalize Classical.choose hex = n at w
    refine ⟨fun m σ H => ∃ F al s, Rel K E F al H σ s ∧ Wants K E W al F D (whileN ec sb m s), ⟨n, F, al, s, rel, w⟩, ?_⟩
    rintro m σ H ⟨F1, al1, s1, r1, w1⟩
    cases m with
    | zero => exact w1.elim
    | succ m =>
      have w1 : Wants K E W al1 F1 D (match ec s1 with
        | .ok true s1 => (match sb s1 with
          | .nx s2 => whileN ec sb m s2
          | .ct s2 => whileN ec sb m s2
          | .bk s2 => .nx s2
          | o => o)
        | .ok false s1 => .nx s1
        | .ex x s1 => .ex x s1
        | .no => .no) := w1
      have q := gc E F1 al1 H σ s1 r1
      cases hc : ec s1 with
      | no => rw [hc] at w1; exact w1.elim
      | ex x s2 =>
        rw [hc] at w1 q
        exact q _ fun cls d F' al' H' r st x => w1 cls d F' al' H' σ r st.gr x
      | ok b s2 =>
        rw [hc] at w1 q
        refine q _ fun b' F2 al2 H2 r2 st2 e => ?_
        have e : b' = b := e
        subst e
        cases b' with
        | false => rw [if_neg Bool.false_ne_true]; exact w1 F2 al2 H2 σ r2 st2.gr
        | true =>
          rw [if_pos rfl]
          refine ⟨fun σ H => ∃ F al s, Rel K E F al H σ s ∧ Wants K E W al F D (whileN ec sb m s), fun σ' H' p => ⟨m, Nat.lt_succ_self m, p⟩, gb E F2 al2 H2 σ s2 _ r2 ?_⟩
          have w1 : Wants K E W al1 F1 D (match sb s2 with
            | .nx s2 => whileN ec sb m s2
            | .ct s2 => whileN ec sb m s2
            | .bk s2 => .nx s2
            | o => o) := w1
          cases hbs : sb s2 with
          | nx s5 => rw [hbs] at w1; exact fun F' al' H' σ' r' gr' => ⟨F', al', s5, r', w1.gr (st2.gr.trans gr')⟩
          | ct s5 => rw [hbs] at w1; exact fun F' al' H' σ' r' gr' => ⟨F', al', s5, r', w1.gr (st2.gr.trans gr')⟩
          | bk s5 => rw [hbs] at w1; exact fun F' al' H' σ' r' gr' => w1 F' al' H' σ' r' (st2.gr.trans gr')
          | rt v s5 => rw [hbs] at w1; exact fun w F' al' H' σ' r' gr' => w1 w F' al' H' σ' r' (st2.gr.trans gr')
          | ex x s5 => rw [hbs] at w1; exact fun c d F' al' H' σ' r' gr' => w1 c d F' al' H' σ' r' (st2.gr.trans gr')
          | no => rw [hbs] at w1; exact w1.elim
  · exact w.elim
end

/-! ### slots forgotten and found again -/
def wipeE (env : List Sl) : List Nat → List Sl
  | [] => env
  | v :: vs => (wipeE env vs).set v .un
theorem wipeE_length (env : List Sl) : ∀ vs : List Nat, (wipeE env vs).length = env.length
  | [] => rfl
  | v :: vs => by unfold wipeE; rw [List.length_set, wipeE_length env vs]
theorem wipeE_out {env : List Sl} {i : Nat} : ∀ {vs : List Nat}, i ∉ vs → (wipeE env vs)[i]? = env[i]?
  | [], _ => rfl
  | v :: vs, h => by
    have h1 : v ≠ i := fun e => h (by rw [e]; exact List.mem_cons_self)
    have h2 : i ∉ vs := fun m => h (List.mem_cons_of_mem _ m)
    unfold wipeE
    rw [List.getElem?_set_ne h1]
    exact wipeE_out h2
theorem wipeE_in {env : List Sl} {i : Nat} {x : Sl} : ∀ {vs : List Nat}, i ∈ vs → (wipeE env vs)[i]? = some x → x = .un
  | [], h, _ => by simp at h
  | v :: vs, h, e => by
    unfold wipeE at e
    rcases set_get e with ⟨_, e, _⟩ | ⟨ne, e⟩
    · exact e
    · rcases List.mem_cons.mp h with h | h
      · exact absurd h.symm ne
      · exact wipeE_in h e
theorem wipe_in {σ : L2.St} {i : Nat} {x : Option V} : ∀ {vs : List Nat}, i ∈ vs → (wipe σ vs)[i]? = some x → x = none
  | [], h, _ => by simp at h
  | v :: vs, h, e => by
    unfold wipe at e
    rcases set_get e with ⟨_, e, _⟩ | ⟨ne, e⟩
    · exact e
    · rcases List.mem_cons.mp h with h | h
      · exact absurd h.symm ne
      · exact wipe_in h e
/-- the slots vs as they were at e0, the others as they are -/
def mergeE (vs : List Nat) (e0 e : List Sl) : List Sl := match vs with
  | [] => e
  | v :: vs => match e0[v]? with
    | some x => (mergeE vs e0 e).set v x
    | none => mergeE vs e0 e
theorem mergeE_length (e0 e : List Sl) : ∀ vs : List Nat, (mergeE vs e0 e).length = e.length
  | [] => rfl
  | v :: vs => by
    unfold mergeE
    cases e0[v]? with
    | none => exact mergeE_length e0 e vs
    | some x => show ((mergeE vs e0 e).set v x).length = _; rw [List.length_set]; exact mergeE_length e0 e vs
theorem mergeE_out {e0 e : List Sl} {i : Nat} : ∀ {vs : List Nat}, i ∉ vs → (mergeE vs e0 e)[i]? = e[i]?
  | [], _ => rfl
  | v :: vs, h => by
    have h1 : v ≠ i := fun z => h (by rw [z]; exact List.mem_cons_self)
    have h2 : i ∉ vs := fun m => h (List.mem_cons_of_mem _ m)
    unfold mergeE
    cases e0[v]? with
    | none => exact mergeE_out h2
    | some x => show ((mergeE vs e0 e).set v x)[i]? = _; rw [List.getElem?_set_ne h1]; exact mergeE_out h2
theorem mergeE_in {e0 e : List Sl} (hl : e0.length = e.length) {i : Nat} : ∀ {vs : List Nat}, i ∈ vs → (mergeE vs e0 e)[i]? = e0[i]?
  | [], h => by simp at h
  | v :: vs, h => by
    unfold mergeE
    cases hv : e0[v]? with
    | none =>
      show (mergeE vs e0 e)[i]? = _
      by_cases hi : i ∈ vs
      · exact mergeE_in hl hi
      · rcases List.mem_cons.mp h with h | h
        · subst h
          rw [mergeE_out hi, hv]
          have := List.getElem?_eq_none_iff.mp hv
          exact List.getElem?_eq_none (by omega)
        · exact absurd h hi
    | some x =>
      show ((mergeE vs e0 e).set v x)[i]? = _
      by_cases hvi : v = i
      · subst hvi
        have h1 := (List.getElem?_eq_some_iff.mp hv).1
        rw [List.getElem?_set_self (by rw [mergeE_length]; omega), hv]
      · rw [List.getElem?_set_ne hvi]
        rcases List.mem_cons.mp h with h | h
        · exact absurd h.symm hvi
        · exact mergeE_in hl h
def wipeS (vs : List Nat) (s : S) : S := { s with env := wipeE s.env vs }
def mergeS (vs : List Nat) (s0 s : S) : S := { s with env := mergeE vs s0.env s.env }
section
variable {K : PySem.W.Frag} {E : Ent} {σ : L2.St} {s s0 s1 s2 : S} {F F0 F1 F2 H H0 H1 H2 : Hp} {al al0 al1 al2 : List Addr} {vs : List Nat}
theorem wipeE_ow {env : List Sl} {i : Nat} {p : Bool} {o : Ob} (h : (wipeE env vs)[i]? = some (.ow p o)) : i ∉ vs ∧ env[i]? = some (.ow p o) := by
  by_cases hi : i ∈ vs
  · cases wipeE_in hi h
  · rw [wipeE_out hi] at h; exact ⟨hi, h⟩
theorem Rel.wipe (r : Rel K E F al H σ s) (vs : List Nat) : Rel K E F al H (L2.wipe σ vs) (wipeS vs s) := by
  refine ⟨r.sub, r.clen, r.cell, r.nd, by show (wipeE s.env vs).length = (L2.wipe σ vs).length; rw [wipeE_length, wipe_length]; exact r.elen, fun i sl v g1 g2 => ?_, fun i j p q o u a g1 g2 g3 g4 => ?_, r.ent, fun i p o a g1 g2 => ?_⟩
  · by_cases hi : i ∈ vs
    · cases wipeE_in hi g1; exact True.intro
    · have g1 : (wipeE s.env vs)[i]? = some sl := g1
      rw [wipeE_out hi] at g1
      rw [wipe_out hi] at g2
      exact r.env i sl v g1 g2
  · obtain ⟨n1, g1⟩ := wipeE_ow g1
    obtain ⟨n2, g2⟩ := wipeE_ow g2
    rw [wipe_out n1] at g3
    rw [wipe_out n2] at g4
    exact r.own i j p q o u a g1 g2 g3 g4
  · obtain ⟨n1, g1⟩ := wipeE_ow g1
    rw [wipe_out n1] at g2
    exact r.onew i p o a g1 g2
/-- what a block has done: beside its own slots vs, a step of the slots -/
structure Blk (vs : List Nat) (σ : L2.St) (s1 s : S) (F1 : Hp) (al1 : List Addr) (H1 : Hp) (F : Hp) (al : List Addr) (H : Hp) : Prop where
  ext : Ext (Tch al1 (wipeE s1.env vs) (L2.wipe σ vs)) (Own0 (wipeE s1.env vs) (L2.wipe σ vs)) F1 al1 H1 F al H
  len : s.env.length = s1.env.length
  dec : ∀ (i : Nat) (sl sl' : Sl), i ∉ vs → s1.env[i]? = some sl → s.env[i]? = some sl' → SlS sl sl'
  un : ∀ (i : Nat) (p : Bool) (o : Ob), i ∈ vs → s.env[i]? ≠ some (.ow p o)
theorem Blk.refl : Blk vs σ s (wipeS vs s) F al H F al H := ⟨.refl, wipeE_length _ _, fun i sl sl' hi g1 g2 => by
  have g2 : (wipeE s.env vs)[i]? = some sl' := g2
  rw [wipeE_out hi, g1] at g2
  cases g2
  exact SlS.refl _, fun i p o hi g => by cases wipeE_in hi g⟩
theorem Blk.back (b : Blk vs σ s1 s F1 al1 H1 F al H) {σ' : L2.St} (hw : ∀ i, i ∉ vs → σ'[i]? = σ[i]?) {p : Bool} {o : Ob} {i : Nat} {a : Addr} (h1 : s.env[i]? = some (.ow p o)) (h2 : σ'[i]? = some (some (.ref a))) : i ∉ vs ∧ ∃ o', (wipeE s1.env vs)[i]? = some (.ow p o') ∧ (L2.wipe σ vs)[i]? = some (some (V.ref a)) := by
  by_cases hi : i ∈ vs
  · exact absurd h1 (b.un i p o hi)
  · have hlt : i < s1.env.length := by rw [← b.len]; exact (List.getElem?_eq_some_iff.mp h1).1
    have q := b.dec i _ _ hi (List.getElem?_eq_getElem hlt) h1
    refine ⟨hi, ?_⟩
    rw [wipeE_out hi, wipe_out hi, List.getElem?_eq_getElem hlt]
    rw [hw i hi] at h2
    cases x : s1.env[i] with
    | un => rw [x] at q; cases (show Sl.ow p o = _ from q)
    | im d => rw [x] at q; cases (show Sl.ow p o = _ from q)
    | ow p' o' =>
      rw [x] at q
      rcases q with ⟨u, q⟩ | ⟨_, d, q⟩
      · cases q; exact ⟨o', rfl, h2⟩
      · cases q
theorem Blk.tch (b : Blk vs σ s1 s F1 al1 H1 F al H) {σ' : L2.St} (hw : ∀ i, i ∉ vs → σ'[i]? = σ[i]?) {x : Addr} (h : Tch al s.env σ' x) : Tch al1 (wipeE s1.env vs) (L2.wipe σ vs) x ∨ H1 x = none := by
  rcases h with h | ⟨i, p, o, h1, h2⟩
  · obtain ⟨l, e, n⟩ := b.ext.al
    rw [e] at h
    rcases List.mem_append.mp h with h | h
    · exact .inl (.inl h)
    · exact .inr (n x h)
  · obtain ⟨_, o', g1, g2⟩ := b.back hw h1 h2
    exact .inl (.inr ⟨i, p, o', g1, g2⟩)
/-- a step within the block -/
theorem Blk.step (b : Blk vs σ s1 s F1 al1 H1 F al H) {σ' : L2.St} (hw : ∀ i, i ∉ vs → σ'[i]? = σ[i]?) (st : Stp σ' s s2 F al H F2 al2 H2) : Blk vs σ s1 s2 F1 al1 H1 F2 al2 H2 := by
  refine ⟨b.ext.trans st.ext (fun x h => b.tch hw h) (fun x ⟨i, o, h1, h2⟩ => ?_), st.dec.len.trans b.len, fun i sl sl' hi g1 g2 => ?_, fun i p o hi g => ?_⟩
  · obtain ⟨_, o', g1, g2⟩ := b.back hw h1 h2
    exact .inl ⟨i, o', g1, g2⟩
  · have hlt : i < s.env.length := by rw [b.len]; exact (List.getElem?_eq_some_iff.mp g1).1
    exact (b.dec i _ _ hi g1 (List.getElem?_eq_getElem hlt)).trans (st.dec.st i _ _ (List.getElem?_eq_getElem hlt) g2)
  · obtain ⟨o', h⟩ := st.dec.back g
    exact b.un i p o' hi h
/-- slots vs change -/
theorem Blk.at (b : Blk vs σ s1 s F1 al1 H1 F al H) (hl : s2.env.length = s.env.length) (h1 : ∀ i, i ∉ vs → s2.env[i]? = s.env[i]?) (h2 : ∀ (i : Nat) (p : Bool) (o : Ob), i ∈ vs → s2.env[i]? ≠ some (.ow p o)) : Blk vs σ s1 s2 F1 al1 H1 F al H :=
  ⟨b.ext, hl.trans b.len, fun i sl sl' hi g1 g2 => b.dec i sl sl' hi g1 (by rw [← h1 i hi]; exact g2), h2⟩
/-- an object that nobody has is changed -/
theorem Rel.putFree (r : Rel K E F al H σ s) {a : Addr} {o : HO} (hF : F a = none) (hT : ¬ Tch al s.env σ a) (hE : E.H a = none) : Rel K E F al (upd H a o) σ s := by
  refine ⟨r.sub.put hF, r.clen, fun i b u h1 h2 => ?_, r.nd, r.elen, fun i sl v h1 h2 => ?_, r.own, r.ent.trans (Ext.put (T := fun x => x = a) (Z := fun _ => False) rfl) (fun x z => by
    have z : x = a := z
    subst z; exact .inr hE) (fun _ z => z.elim), r.onew⟩
  · obtain ⟨g, ho, e, q⟩ := r.cell i b u h1 h2
    have ne : b ≠ a := fun z => hT (.inl (z ▸ List.mem_of_getElem? h1))
    exact ⟨g, ho, by rw [upd_ne ne]; exact e, q⟩
  · have q := r.env i sl v h1 h2
    cases sl with
    | un => exact True.intro
    | im d => exact q
    | ow p u =>
      obtain ⟨b, hb, e, q1, q2, q3, q4⟩ := q
      subst e
      have ne : b ≠ a := fun z => hT (.inr ⟨i, _, _, h1, z ▸ h2⟩)
      exact ⟨b, hb, rfl, q1, q2, by rw [upd_ne ne]; exact q3, q4⟩
theorem Blk.put (b : Blk vs σ s1 s F1 al1 H1 F al H) {a : Addr} {o : HO} (h : H1 a = none) : Blk vs σ s1 s F1 al1 H1 F al (upd H a o) :=
  ⟨b.ext.trans (Ext.put (T := fun x => x = a) (Z := fun _ => False) rfl) (fun x z => by
    have z : x = a := z
    subst z; exact .inr h) (fun _ z => z.elim), b.len, b.dec, b.un⟩
/-- behind the block -/
theorem Rel.merge (r1 : Rel K E F1 al1 H1 σ s1) (b : Blk vs σ s1 s F1 al1 H1 F al H) {σ' : L2.St} (hw : ∀ i, i ∉ vs → σ'[i]? = σ[i]?) (hl : σ'.length = σ.length) (r : Rel K E F al H σ' s) : Rel K E F al H σ (mergeS vs s1 s) ∧ Stp σ s1 (mergeS vs s1 s) F1 al1 H1 F al H := by
  have e0 : s1.env.length = s.env.length := b.len.symm
  have ein : ∀ i, i ∈ vs → (mergeS vs s1 s).env[i]? = s1.env[i]? := fun i hi => mergeE_in e0 hi
  have eout : ∀ i, i ∉ vs → (mergeS vs s1 s).env[i]? = s.env[i]? := fun i hi => mergeE_out hi
  -- what the block's own slots own is kept
  have kept : ∀ (i : Nat) (p : Bool) (o : Ob) (a : Addr), i ∈ vs → s1.env[i]? = some (.ow p o) → σ[i]? = some (some (.ref a)) → ¬ Tch al1 (wipeE s1.env vs) (L2.wipe σ vs) a := fun i p o a hi h1 h2 ht => by
    rcases ht with ht | ⟨j, q, u, g1, g2⟩
    · exact (r1.ownH ⟨i, p, o, h1, h2⟩).2.1 ht
    · obtain ⟨n, g1⟩ := wipeE_ow g1
      rw [wipe_out n] at g2
      have := r1.own i j p q o u a h1 g1 h2 g2
      subst this
      exact n hi
  have back : ∀ (i : Nat) (p : Bool) (o : Ob) (a : Addr), (mergeS vs s1 s).env[i]? = some (.ow p o) → σ[i]? = some (some (.ref a)) → (i ∈ vs ∧ s1.env[i]? = some (.ow p o)) ∨ (i ∉ vs ∧ s.env[i]? = some (.ow p o) ∧ σ'[i]? = some (some (.ref a)) ∧ ∃ o', s1.env[i]? = some (.ow p o')) := fun i p o a h1 h2 => by
    by_cases hi : i ∈ vs
    · rw [ein i hi] at h1; exact .inl ⟨hi, h1⟩
    · rw [eout i hi] at h1
      rw [← hw i hi] at h2
      obtain ⟨_, o', g1, g2⟩ := b.back hw h1 h2
      exact .inr ⟨hi, h1, h2, o', (wipeE_ow g1).2⟩
  refine ⟨⟨r.sub, r.clen, r.cell, r.nd, by show (mergeE vs s1.env s.env).length = _; rw [mergeE_length, ← hl]; exact r.elen, fun i sl v g1 g2 => ?_, fun i j p q o u a g1 g2 g3 g4 => ?_, r.ent, fun i p o a g1 g2 => ?_⟩, ⟨b.ext.mono (fun x h => ?_) (fun x ⟨i, o, h1, h2⟩ => ?_), by show (mergeE vs s1.env s.env).length = _; rw [mergeE_length]; exact b.len, fun i sl sl' g1 g2 => ?_⟩⟩
  · by_cases hi : i ∈ vs
    · rw [ein i hi] at g1
      have q := r1.env i sl v g1 g2
      cases sl with
      | un => exact True.intro
      | im d =>
        obtain ⟨x, e, q⟩ := q
        exact ⟨x, e, q.mono b.ext.gr⟩
      | ow p o =>
        obtain ⟨a, ho, e, q1, q2, q3, q4⟩ := q
        subst e
        have nt := kept i p o a hi g1 g2
        refine ⟨a, ho, rfl, ?_, fun hm => ?_, b.ext.keep a ho q3 nt, q4.mono b.ext.gr⟩
        · cases z : F a with
          | none => rfl
          | some u =>
            rcases b.ext.fn a u z with h | h | ⟨j, o', h1, h2⟩
            · rw [q1] at h; cases h
            · rw [q3] at h; cases h
            · exact absurd (Or.inr ⟨j, _, o', h1, h2⟩) nt
        · obtain ⟨l, e, n⟩ := b.ext.al
          rw [e] at hm
          rcases List.mem_append.mp hm with hm | hm
          · exact q2 hm
          · rw [n a hm] at q3; cases q3
    · rw [eout i hi] at g1
      rw [← hw i hi] at g2
      exact r.env i sl v g1 g2
  · rcases back i p o a g1 g3 with ⟨hi, k1⟩ | ⟨hi, k1, k2, o', k3⟩ <;> rcases back j q u a g2 g4 with ⟨hj, m1⟩ | ⟨hj, m1, m2, u', m3⟩
    · exact r1.own i j p q o u a k1 m1 g3 g4
    · exact r1.own i j p q o u' a k1 m3 g3 g4
    · exact r1.own i j p q o' u a k3 m1 g3 g4
    · exact r.own i j p q o u a k1 m1 k2 m2
  · rcases back i p o a g1 g2 with ⟨hi, k1⟩ | ⟨hi, k1, k2, _⟩
    · exact r1.onew i p o a k1 g2
    · exact r.onew i p o a k1 k2
  · rcases h with h | ⟨i, p, o, h1, h2⟩
    · exact .inl (.inl h)
    · obtain ⟨n, h1⟩ := wipeE_ow h1
      rw [wipe_out n] at h2
      exact .inl (.inr ⟨i, p, o, h1, h2⟩)
  · obtain ⟨n, h1⟩ := wipeE_ow h1
    rw [wipe_out n] at h2
    exact .inl ⟨i, o, h1, h2⟩
  · by_cases hi : i ∈ vs
    · rw [ein i hi, g1] at g2; cases g2; exact SlS.refl _
    · rw [eout i hi] at g2
      exact b.dec i sl sl' hi g1 g2
end
end VI
end
section
set_option Elab.async false
set_option linter.all false
set_option maxRecDepth 100000
set_option maxHeartbeats 2000000
/-! V11: list comprehensions; name = [..]. -/
namespace VI
open PySem PySem.Spec L2

def compL (vs : List Nat) (gv : Gv) (tt : M Bool) (te : M Va) : List D → List D → S → Rs (List D)
  | [], acc, s => .ok acc s
  | d :: ds, acc, s => match gv d s with
    | none => .no
    | some s1 => (match tt s1 with
      | .ok true s2 => (match (te >>= esc) s2 with
        | .ok y s3 => if acc.length < sizeLine then compL vs gv tt te ds (acc ++ [y]) (wipeS vs s3) else .no
        | _ => .no)
      | .ok false s2 => compL vs gv tt te ds acc (wipeS vs s2)
      | _ => .no)
def evComp (vs : List Nat) (it : M (List D)) (gv : Gv) (tt : M Bool) (te : M Va) : M Va := it >>= fun ds s => match compL vs gv tt te ds [] (wipeS vs s) with
  | .ok acc s' => .ok (.fr (.lst acc)) (mergeS vs s s')
  | _ => .no
abbrev W0 : Wx := fun _ _ _ _ => False
def STs (X : Cx) (K : PySem.W.Frag) (W : Wx) (ifs : List Expr) (tt : TT) (ev : M Bool) : Prop := X.K = K ∧ PTs X ifs tt ∧ GoodT K W tt ev
section
variable {X : Cx} {W : Wx} {K : PySem.W.Frag}
theorem sts_nil (hK : X.K = K := by rfl) : STs X K W [] tYes (pure true) := ⟨hK, pts_nil, fun E F al H σ s rel Q hQ => hQ true F al H rel .refl rfl⟩
theorem sts_one {c : Expr} {tt : TT} {ev : M Bool} (h : ST X K W c tt ev) : STs X K W [c] tt ev := ⟨h.1, pts_one h.2.1, h.2.2⟩
theorem wipe_eq {σ σ2 : L2.St} {vs : List Nat} (hl : σ2.length = σ.length) (h : ∀ i, i ∉ vs → σ2[i]? = σ[i]?) : L2.wipe σ2 vs = L2.wipe σ vs := by
  refine List.ext_getElem? fun i => ?_
  by_cases hi : i ∈ vs
  · by_cases hlt : i < σ.length
    · have h1 : i < (L2.wipe σ2 vs).length := by rw [wipe_length, hl]; exact hlt
      have h2 : i < (L2.wipe σ vs).length := by rw [wipe_length]; exact hlt
      have e1 := wipe_in hi (List.getElem?_eq_getElem h1)
      have e2 := wipe_in hi (List.getElem?_eq_getElem h2)
      rw [List.getElem?_eq_getElem h1, List.getElem?_eq_getElem h2, e1, e2]
    · rw [List.getElem?_eq_none (by rw [wipe_length]; omega), List.getElem?_eq_none (by rw [wipe_length]; omega)]
  · rw [wipe_out hi, wipe_out hi]; exact h i hi
theorem good_comp {vs is : List Nat} {wi : TI} {ev : M (List D)} {g : TG} {gv : Gv} {tt : TT} {et : M Bool} {te : TE} {ee : M Va} (gi : GoodI K W wi ev) (gg : GoodG K is g gv) (gt : GoodT K W0 tt et) (ge : GoodE K W0 te ee) (hs : ∀ i ∈ is, i ∈ vs) : GoodE K W (tLc wi g tt te vs) (evComp vs ev gv et ee) := fun E F al H σ s rel => by
  refine Sat.bind (u := fun J H1 Q => ∀ D, H1 D = none → ∃ W : Nat → Nat → Hp → Prop, (∃ m, W 0 m (upd H1 D (.lst []))) ∧ ∀ i m H, W i m H →
    (J.stop i H ∧ Q (.ref D) H) ∨ (J.go i H ∧ ∃ Nx : Hp → Prop, (∀ H', Nx H' → ∃ m', m' < m ∧ W (i + 1) m' H') ∧ ∀ x H', J.yld i H x H' → g x (L2.wipe σ vs) H' fun σ2 H2 => L2.wipe σ2 vs = L2.wipe σ vs ∧ tt σ2 H2 fun b H3 =>
      if b = true then te σ2 H3 fun y H4 => ∃ acc, H4 D = some (.lst acc) ∧ acc.length < sizeLine ∧ Nx (upd H4 D (.lst (acc ++ [y]))) else Nx H3)) VR.low (gi E F al H σ s rel) fun ds s1 J F1 al1 H1 _ r1 st1 ir => ?_
  have ir : ItR K al1 F1 J ds := ir
  cases hc : compL vs gv et ee ds [] (wipeS vs s1) with
  | no => simp only [hc]; exact True.intro
  | ex x s' => simp only [hc]; exact True.intro
  | ok accF sF =>
    simp only [hc]
    refine fun Q hQ Dd hD => ?_
    obtain ⟨fF, fT, fE⟩ := r1.fresh hD
    have nw : ∀ (i : Nat), i ∉ vs → (L2.wipe σ vs)[i]? = σ[i]? := fun i hi => wipe_out hi
    refine ⟨fun i m H => m = ds.length - i ∧ i ≤ ds.length ∧ ∃ F al s acc, Rel K E F al H (L2.wipe σ vs) s ∧ Blk vs σ s1 s F1 al1 H1 F al H ∧ VaR K E H1 al F H (L2.wipe σ vs) s (.ref Dd) (.fr (.lst acc)) ∧ compL vs gv et ee (ds.drop i) acc s = .ok accF sF, ⟨ds.length, by simp, Nat.zero_le _, F1, al1, wipeS vs s1, [], (r1.new0 hD).wipe vs, Blk.put .refl hD, ?_, by simpa using hc⟩, ?_⟩
    · refine ⟨Dd, .lst [], rfl, fF, upd_same, ⟨.nil, Nat.zero_le _⟩, fun t => fT ?_, fE, hD⟩
      rcases t with t | ⟨i, p, o, h1, h2⟩
      · exact .inl t
      · obtain ⟨n, h1⟩ := wipeE_ow h1
        rw [wipe_out n] at h2
        exact .inr ⟨i, p, o, h1, h2⟩
    · rintro i m H2 ⟨rfl, hi, F2, al2, s2, acc, r2, b2, v2, c2⟩
      by_cases hlt : i < ds.length
      · have gr2 : Gr al1 F1 al2 F2 := b2.ext.gr
        refine .inr ⟨ir.go i E F2 al2 H2 _ s2 hlt r2 gr2, fun H => ∃ F al s acc, Rel K E F al H (L2.wipe σ vs) s ∧ Blk vs σ s1 s F1 al1 H1 F al H ∧ VaR K E H1 al F H (L2.wipe σ vs) s (.ref Dd) (.fr (.lst acc)) ∧ compL vs gv et ee (ds.drop (i + 1)) acc s = .ok accF sF, fun H' p' => ⟨ds.length - (i + 1), by omega, rfl, hlt, p'⟩, fun x H3 y => ?_⟩
        obtain ⟨F3, r3, st3, _, d3⟩ := ir.yld i ds[i] E F2 al2 H2 _ s2 x H3 (List.getElem?_eq_getElem hlt) r2 gr2 y
        have b3 := b2.step nw st3
        have v3 := v2.mono st3
        rw [List.drop_eq_getElem_cons hlt] at c2
        have c2 : (match gv ds[i] s2 with
          | none => .no
          | some s1 => (match et s1 with
            | .ok true s2 => (match (ee >>= esc) s2 with
              | .ok y s3 => if acc.length < sizeLine then compL vs gv et ee (ds.drop (i + 1)) (acc ++ [y]) (wipeS vs s3) else .no
              | _ => .no)
            | .ok false s2 => compL vs gv et ee (ds.drop (i + 1)) acc (wipeS vs s2)
            | _ => .no)) = Rs.ok accF sF := c2
        cases hgv : gv ds[i] s2 with
        | none => rw [hgv] at c2; cases c2
        | some s4 =>
          rw [hgv] at c2
          refine gg E F3 al2 H3 _ s2 s4 ds[i] x _ r3 d3 hgv fun σ4 r4 ag nu hl4 hst => ?_
          have no4 : ∀ (i : Nat) (p : Bool) (o : Ob), i ∈ vs → s4.env[i]? ≠ some (.ow p o) := fun i p o hi => by
            by_cases z : i ∈ is
            · exact nu i p o z (b2.un i p o hi)
            · rw [(ag i z).2]; exact b2.un i p o hi
          have ag' : ∀ i, i ∉ vs → σ4[i]? = (L2.wipe σ vs)[i]? ∧ s4.env[i]? = s2.env[i]? := fun i hi => ag i fun z => hi (hs i z)
          have nw4 : ∀ i, i ∉ vs → σ4[i]? = σ[i]? := fun i hi => (ag' i hi).1.trans (nw i hi)
          have hlw : σ4.length = σ.length := by rw [hl4, wipe_length]
          have ew : L2.wipe σ4 vs = L2.wipe σ vs := wipe_eq hlw nw4
          have b4 : Blk vs σ s1 s4 F1 al1 H1 F3 al2 H3 := b3.at (by
            have := r4.elen
            have := r3.elen
            omega) (fun i hi => (ag' i hi).2) no4
          have v4 : VaR K E H1 al2 F3 H3 σ4 s4 (.ref Dd) (.fr (.lst acc)) := by
            obtain ⟨a, ho, e, q1, q2, q3, q4, q5, q6⟩ := v3
            refine ⟨a, ho, e, q1, q2, q3, fun t => q4 ?_, q5, q6⟩
            rcases t with t | ⟨i, p, o, h1, h2⟩
            · exact .inl t
            · have hi : i ∉ vs := fun z => no4 i p o z h1
              rw [(ag' i hi).2] at h1
              rw [(ag' i hi).1] at h2
              exact .inr ⟨i, p, o, h1, h2⟩
          refine ⟨ew, ?_⟩
          have qt := gt E F3 al2 H3 σ4 s4 r4
          have c2 : (match et s4 with
            | .ok true s2 => (match (ee >>= esc) s2 with
              | .ok y s3 => if acc.length < sizeLine then compL vs gv et ee (ds.drop (i + 1)) (acc ++ [y]) (wipeS vs s3) else .no
              | _ => .no)
            | .ok false s2 => compL vs gv et ee (ds.drop (i + 1)) acc (wipeS vs s2)
            | _ => .no) = Rs.ok accF sF := c2
          -- a turn's end
          have fin : ∀ {F5 : Hp} {al5 : List Addr} {H5 : Hp} {s5 : S} {acc5 : List D}, Rel K E F5 al5 H5 σ4 s5 → Blk vs σ s1 s5 F1 al1 H1 F5 al5 H5 → VaR K E H1 al5 F5 H5 σ4 s5 (.ref Dd) (.fr (.lst acc5)) → compL vs gv et ee (ds.drop (i + 1)) acc5 (wipeS vs s5) = Rs.ok accF sF →
              ∃ F al s acc, Rel K E F al H5 (L2.wipe σ vs) s ∧ Blk vs σ s1 s F1 al1 H1 F al H5 ∧ VaR K E H1 al F H5 (L2.wipe σ vs) s (.ref Dd) (.fr (.lst acc)) ∧ compL vs gv et ee (ds.drop (i + 1)) acc s = .ok accF sF := fun {F5 al5 H5 s5 acc5} r5 b5 v5 c5 => by
            refine ⟨F5, al5, wipeS vs s5, acc5, by rw [← ew]; exact r5.wipe vs, b5.at (wipeE_length _ _) (fun i hi => wipeE_out hi) (fun i p o hi g => by cases wipeE_in hi g), ?_, c5⟩
            obtain ⟨a, ho, e, q1, q2, q3, q4, q5, q6⟩ := v5
            refine ⟨a, ho, e, q1, q2, q3, fun t => q4 ?_, q5, q6⟩
            rcases t with t | ⟨i, p, o, h1, h2⟩
            · exact .inl t
            · obtain ⟨n, h1⟩ := wipeE_ow h1
              rw [← ew, wipe_out n] at h2
              exact .inr ⟨i, p, o, h1, h2⟩
          cases het : et s4 with
          | no => rw [het] at c2; cases c2
          | ex x s5 => rw [het] at c2; cases c2
          | ok k s5 =>
            rw [het] at c2 qt
            refine qt _ fun k' F5 al5 H5 r5 st5 ek => ?_
            have ek : k' = k := ek
            subst ek
            cases k' with
            | false =>
              rw [if_neg Bool.false_ne_true]
              exact fin r5 (b4.step nw4 st5) (v4.mono st5) c2
            | true =>
              rw [if_pos rfl]
              have qe := (ge E F5 al5 H5 σ4 s5 r5).esc
              have c2 : (match (ee >>= esc) s5 with
                | .ok y s3 => if acc.length < sizeLine then compL vs gv et ee (ds.drop (i + 1)) (acc ++ [y]) (wipeS vs s3) else .no
                | _ => .no) = Rs.ok accF sF := c2
              cases hee : (ee >>= esc) s5 with
              | no => rw [hee] at c2; cases c2
              | ex x s6 => rw [hee] at c2; cases c2
              | ok yd s6 =>
                rw [hee] at c2 qe
                have c2 : (if acc.length < sizeLine then compL vs gv et ee (ds.drop (i + 1)) (acc ++ [yd]) (wipeS vs s6) else .no) = Rs.ok accF sF := c2
                split at c2
                · rename_i hz
                  refine qe _ fun y F6 al6 H6 r6 st6 d6 => ?_
                  have v6 := (v4.mono st5).mono st6
                  obtain ⟨a, ho, e, q1, q2, q3, q4, q5, q6⟩ := v6
                  cases e
                  cases ho <;> first | exact q3.elim | skip
                  rename_i vacc
                  have q3 : DatL K al6 F6 acc vacc ∧ acc.length ≤ sizeLine := q3
                  refine ⟨vacc, q2, by rw [← q3.1.length]; exact hz, ?_⟩
                  refine fin (r6.putFree q1 q4 q5) (((b4.step nw4 st5).step nw4 st6).put hD) ⟨Dd, _, rfl, q1, upd_same, ⟨q3.1.app (.cons d6 .nil), by rw [List.length_append]; exact hz⟩, q4, q5, q6⟩ c2
                · cases c2
      · have e : i = ds.length := by omega
        subst e
        have gr2 : Gr al1 F1 al2 F2 := b2.ext.gr
        rw [List.drop_length] at c2
        cases c2
        obtain ⟨rm, sm⟩ := r1.merge b2 nw (wipe_length σ vs) r2
        refine .inl ⟨ir.stop E F2 al2 H2 _ sF r2 gr2, hQ _ F2 al2 H2 rm sm ?_⟩
        obtain ⟨a, ho, e, q1, q2, q3, q4, q5, q6⟩ := v2
        cases e
        refine ⟨Dd, ho, rfl, q1, q2, q3, fun t => ?_, q5, hD⟩
        rcases t with t | ⟨i, p, o, h1, h2⟩
        · exact q4 (.inl t)
        · by_cases hi : i ∈ vs
          · have h1 : (mergeE vs s1.env sF.env)[i]? = some (.ow p o) := h1
            rw [mergeE_in b2.len.symm hi] at h1
            exact (r1.ownH ⟨i, p, o, h1, h2⟩).2.2 hD
          · have h1 : (mergeE vs s1.env sF.env)[i]? = some (.ow p o) := h1
            rw [mergeE_out hi] at h1
            rw [← wipe_out (vs := vs) hi] at h2
            exact q4 (.inr ⟨i, p, o, h1, h2⟩)
theorem se_comp {is : List Nat} {elt tg iter : Expr} {ifs : List Expr} {scope : Scope} {pos : Pos} {wi : TI} {ev : M (List D)} {g : TG} {gv : Gv} {tt : TT} {et : M Bool} {te : TE} {ee : M Va} (own : List (Str × Nat)) (hN : X.N.Nodup) (hi : SI X K W tg iter wi ev)
    (hg : ∀ (s : Shared) (H : Hp) (C : Addr) (cl : List (Str × Addr)) (fp : List Addr), SG (X.blk s H scope (compEnvC scope cl C X.env) fp) K is tg g gv) (ht : ∀ (s : Shared) (H : Hp) (C : Addr) (cl : List (Str × Addr)) (fp : List Addr), STs (X.blk s H scope (compEnvC scope cl C X.env) fp) K W0 ifs tt et)
    (he : ∀ (s : Shared) (H : Hp) (C : Addr) (cl : List (Str × Addr)) (fp : List Addr), SE (X.blk s H scope (compEnvC scope cl C X.env) fp) K W0 elt te ee) (ok : blkC X.N X.env.scope scope own = true := by rfl) (hvs : is.all (fun i => (own.map (·.2)).contains i) = true := by rfl) (hc : X.calm = true := by rfl) (hs : ∀ x, foldedSetIterable iter X.env x = pure x := by intro _; rfl) :
    SE X K W (.ListComp elt [⟨tg, iter, ifs, 0⟩] scope pos) (tLc wi g tt te (own.map (·.2))) (evComp (own.map (·.2)) ev gv et ee) := by
  obtain ⟨hK, pi, gi⟩ := hi
  refine ⟨hK, pe_lc hc hN pi (blkOk_by ok) (fun s H C cl fp => (hg s H C cl fp).2.1) (fun s H C cl fp => (ht s H C cl fp).2.1) (fun s H C cl fp => (he s H C cl fp).2.1) hs, ?_⟩
  refine good_comp gi (hg X.s_0 (fun _ => none) 0 [] []).2.2 (ht X.s_0 (fun _ => none) 0 [] []).2.2 (he X.s_0 (fun _ => none) 0 [] []).2.2 fun i hi => ?_
  have := List.all_eq_true.mp hvs i hi
  simpa using this
/-- what is stored at a local name -/
inductive How where
  | set | own | cell
def svHow : How → Nat → M Va → Sx
  | .set => svSet
  | .own => svSetO
  | .cell => svSetC
theorem good_how {te : TE} {ev : M Va} (h : How) (i : Nat) (g : GoodE K W te ev) : GoodS K W (tAsg te (gName i)) (svHow h i ev) := fun E F al H σ s D rel w => by
  cases h with
  | set => exact (g E F al H σ s rel).esc.want w (fun d s1 v F1 al1 H1 hm r gr q w1 => w1 F1 al1 H1 _ (r.setIm i q) .refl) fun _ _ _ _ _ h => h
  | own =>
    refine (g E F al H σ s rel).want w (fun d s1 v F1 al1 H1 hm r gr q w1 => ?_) fun _ _ _ _ _ h => h
    cases d with
    | im d => exact w1 F1 al1 H1 _ (r.setIm i q) .refl
    | fr o =>
      obtain ⟨a, ho, e, h1, h2, h3, h4, h5, h6⟩ := q
      subst e
      exact w1 F1 al1 H1 _ (r.setOw i h1 h2 h3 h4 h5) .refl
    | pl j => exact w1.elim
  | cell =>
    refine (g E F al H σ s rel).want w (fun d s1 v F1 al1 H1 hm r gr q w1 => ?_) fun _ _ _ _ _ h => h
    cases d with
    | im d => exact w1 F1 al1 H1 _ (r.setIm i q) .refl
    | fr o =>
      obtain ⟨a, ho, e, h1, h2, h3, h4, h5, h6⟩ := q
      subst e
      obtain ⟨r2, gr2, d2⟩ := r.mkCell h1 h2 h3 h4 h5
      exact w1 F1 _ H1 _ (r2.setIm i d2) gr2
    | pl j => exact w1.elim
theorem ss_how (h : How) (i : Nat) {x : Str} {e : Expr} {te : TE} {ev : M Va} {pos pos' : Pos} (he : SE X K W e te ev) (hN : X.N.Nodup) (hi : X.N[i]? = some x := by rfl) (hx : Loc X.env.scope x := by first | exact Or.inl rfl | exact Or.inr rfl) (hs : swapsWith e (some (.Name x pos')) pos.line X.env = pure false := by rfl)
    (hf : X.fn x = true ∨ X.env.scope.names.lookup x = some .local := by first | exact .inl rfl | exact .inr rfl | assumption) : SS X K W (.Assign [.Name x pos'] e pos) (tAsg te (gName i)) (svHow h i ev) := by
  obtain ⟨hK, p, g⟩ := he
  exact ⟨hK, ps_set hN hi hx p hs hf, good_how h i g⟩
/-- name = [..] on one line -/
theorem ss_comp (h : How) (i : Nat) {is : List Nat} {y : Str} {py : Pos} {elt tg iter : Expr} {ifs : List Expr} {scope : Scope} {pos spos : Pos} {wi : TI} {ev : M (List D)} {g : TG} {gv : Gv} {tt : TT} {et : M Bool} {te : TE} {ee : M Va} (own : List (Str × Nat)) (hN : X.N.Nodup) (hi : SI X K W tg iter wi ev)
    (hg : ∀ (s : Shared) (H : Hp) (C : Addr) (cl : List (Str × Addr)) (fp : List Addr), SG (X.blk s H scope (compEnvC scope cl C X.env) fp) K is tg g gv) (ht : ∀ (s : Shared) (H : Hp) (C : Addr) (cl : List (Str × Addr)) (fp : List Addr), STs (X.blk s H scope (compEnvC scope cl C X.env) fp) K W0 ifs tt et)
    (he : ∀ (s : Shared) (H : Hp) (C : Addr) (cl : List (Str × Addr)) (fp : List Addr), SE (X.blk s H scope (compEnvC scope cl C X.env) fp) K W0 elt te ee) (hsw : swapsWith (.ListComp elt [⟨tg, iter, ifs, 0⟩] scope pos) (some (.Name y py)) spos.line X.env = pure true := by exact sw_true rfl rfl rfl rfl)
    (hy : X.N[i]? = some y := by rfl) (hyl : X.env.scope.names.lookup y = some .local := by rfl)
    (ok : blkC X.N X.env.scope scope own = true := by rfl) (hvs : is.all (fun i => (own.map (·.2)).contains i) = true := by rfl) (hc : X.calm = true := by rfl) (hs : ∀ x, foldedSetIterable iter X.env x = pure x := by intro _; rfl) :
    SS X K W (.Assign [.Name y py] (.ListComp elt [⟨tg, iter, ifs, 0⟩] scope pos) spos) (tAsg (tLc wi g tt te (own.map (·.2))) (gName i)) (svHow h i (evComp (own.map (·.2)) ev gv et ee)) := by
  obtain ⟨hK, pi, gi⟩ := hi
  refine ⟨hK, ps_setLc hc hN hy hyl hsw pi (blkOk_by ok) (fun s H C cl fp => (hg s H C cl fp).2.1) (fun s H C cl fp => (ht s H C cl fp).2.1) (fun s H C cl fp => (he s H C cl fp).2.1) hs, ?_⟩
  refine good_how h i (good_comp gi (hg X.s_0 (fun _ => none) 0 [] []).2.2 (ht X.s_0 (fun _ => none) 0 [] []).2.2 (he X.s_0 (fun _ => none) 0 [] []).2.2 fun i hi => ?_)
  have := List.all_eq_true.mp hvs i hi
  simpa using this
end
end VI
end
section
set_option Elab.async false
set_option linter.all false
set_option maxRecDepth 100000
set_option maxHeartbeats 2000000
/-! V12: what a def does by values, its promise; calls. -/
namespace VI
open PySem PySem.Spec L2

/-! ### room, promises: as the hand layer's, and nothing is being shown -/
structure Room (k : Nat) (A : Around) : Prop extends L2.Room k A where
  gd : A.guards = some []
theorem Room.mono {j k : Nat} {A : Around} (r : Room k A) (h : j ≤ k) : Room j A := ⟨L2.Room.mono r.toRoom h, r.gd⟩
theorem Room.deeper {k : Nat} {A : Around} (r : Room (k + 1) A) (env : Env) : Room k (A.deeper env) := ⟨L2.Room.deeper r.toRoom env, r.gd⟩
theorem Room.in1 {k : Nat} {A : Around} (r : Room (k + 1) A) : Room k A.in1 := ⟨L2.Room.in1 r.toRoom, r.gd⟩
theorem Room.make {k : Nat} {A : Around} (r : Room (k + 1) A) (C : Addr) (us : List Value) (kw : List (Str × Value)) : Room k (A.under (.builtin "type.__call__" ⟨.ref C :: us, kw⟩)) := by
  refine ⟨L2.Room.make r.toRoom C us kw, ?_⟩
  have e : (Code.builtin "type.__call__" ⟨.ref C :: us, kw⟩).guards = [] := by
    have q : (Code.builtin "type.__call__" ⟨.ref C :: us, kw⟩).isGuard = false := by
      first | rfl | simp [Code.isGuard, guardIds]
    unfold Code.guards
    rw [q]; rfl
  show pushGuards (Code.builtin "type.__call__" ⟨.ref C :: us, kw⟩).guards A.guards = some []
  rw [e]
  exact r.gd
section
variable {P : Program} {w : World} {K : PySem.W.Frag} {mg : Str → Option Value} {base : Heap} {CX : CXT} {j k : Nat} {f : Addr} {fd : FuncData} {ps : List Str} {sp sp' : Sp}
structure FnOk (P : Program) (w : World) (K : PySem.W.Frag) (mg : Str → Option Value) (base : Heap) (CX : CXT) (k : Nat) (f : Addr) (fd : FuncData) (ps : List Str) (sp : Sp) : Prop where
  len : ∀ vs H Q E, sp vs H Q E → vs.length = ps.length
  run : ∀ (A : Around) (outer : List Env) (s : Shared) (H : Hp) (args : Args) (us : List Value) (vs : List V) (Q : VK) (E : XK), VI.Room k A → Env0 P w K mg base A outer s H → BindsTo s fd args (ps.zip us) → Vals vs us → sp vs H Q E → PySem.codeAny (model P w) A (.call (.ref f) args) (CR CX outer P w H s Q E) s
theorem FnOk.mono (F : FnOk P w K mg base CX j f fd ps sp) (h : j ≤ k) : FnOk P w K mg base CX k f fd ps sp := ⟨F.len, fun A outer s H args us vs Q E hr e0 hb r z => F.run A outer s H args us vs Q E (hr.mono h) e0 hb r z⟩
theorem FnOk.imp (F : FnOk P w K mg base CX k f fd ps sp) (h : ∀ vs H Q E, sp' vs H Q E → sp vs H Q E) : FnOk P w K mg base CX k f fd ps sp' := ⟨fun vs H Q E z => F.len vs H Q E (h _ _ _ _ z), fun A outer s H args us vs Q E hr e0 hb r z => F.run A outer s H args us vs Q E hr e0 hb r (h _ _ _ _ z)⟩
abbrev FnR (P : Program) (w : World) (K : PySem.W.Frag) (mg : Str → Option Value) (base : Heap) (CX : CXT) (k : Nat) (f : Addr) (sp : Sp) : Prop := ∀ (A : Around) (outer : List Env) (s : Shared) (H : Hp) (us : List Value) (vs : List V) (Q : VK) (E : XK), VI.Room k A → Env0 P w K mg base A outer s H → Vals vs us → sp vs H Q E →
  PySem.codeAny (model P w) A (.call (.ref f) ⟨us, []⟩) (CR CX outer P w H s Q E) s
/-- the def's body gives its promise -/
theorem fnD_ok {x qual : Str} {params : Arguments} {body : List Stmt} {scope : Scope} {dvs : List V} {kws : List (Str × V)} {N : List Str} (F : FunD K x qual params body scope dvs kws f fd) (S : FnScope N ps scope) (len : ∀ vs H Q E, sp vs H Q E → vs.length = ps.length)
    (hb : ∀ (cdv : Value) (A : Around) (outer : List Env) (s : Shared) (H : Hp) (vs : List V) (Q : VK) (E : XK), VI.Room k (A.deeper (PyProof.Rows.envOfC qual scope s.heap.objs.size f cdv)) → sp vs H Q E →
      ∃ t, PSs (cxOf CX P w K mg base N qual scope f cdv A outer s H E) body t ∧ t { nx := fun _ H' => Q .non H', rt := Q } (L2.start N vs) H) : FnOk P w K mg base CX (k + 1) f fd ps sp := by
  obtain ⟨oc, od, dV, kV, doc, pm, an, cdv, ct, osl, rfl, lk, hcd, _, _⟩ := F.ex
  refine ⟨len, fun A outer s H args us vs Q E hr e0 bt r hs => ?_⟩
  refine StX.run_bnd (CX := CX) (G := fun xs H2 => xs = vs ∧ H2 = H ) lk hcd S hr.toRoom e0 (fun A' Ex Q' h => ?_) fun s2 H2 xs ⟨ex, eH⟩ hr2 => ?_
  · exact bt _ _ _ _ (h s H vs us e0 Un.refl rfl (fun _ _ z => z) r (len _ _ _ _ hs) ⟨rfl, rfl⟩)
  · subst ex eH
    exact hb cdv A outer s2 _ _ Q E ⟨hr2, hr.gd⟩ hs
end
section
variable {X : Cx} {CX : CXT} {k : Nat} {f : Addr} {fd : FuncData} {ps : List Str} {sp : Sp} {dvs : List V} {ds : List Value} {E : L2.St → XK} {x : Str} {p pos : Pos} {e : Expr} {es : List Expr} {t : TA}
theorem run_fnSD {pins : List (Addr × Obj)} {σ : L2.St} {H : Hp} {s : Shared} {Q : VK} {us : List Value} {vs : List V} (F : FnOk X.prog X.w X.K X.mg X.base CX k f fd ps sp) (hr : Room k X.A) (hb : Binds X.K fd ps ds) (hd : Vals dvs ds) (hx : PassesAt CX X σ (E σ)) (I : Inv X pins σ H s) (r : Vals vs us) (h : sp (vs ++ dvs) H Q (E σ)) :
    wpAny (model X.prog X.w) X.A (call (.ref f) us) (EP X pins σ Q) X.xe s := by
  have rr := r.append hd
  refine PySem.wpAny_call (PySem.codeAny_mono (F.run X.A X.stack s H ⟨us, []⟩ (us ++ ds) (vs ++ dvs) Q (E σ) hr I.env0 (hb s us I.kIn (rr.length.symm.trans (F.len _ _ _ _ h))) rr h) fun out s' z => ?_)
  match out, z with
  | .error e, z => exact hx pins H s e s' I z
  | .ok (.ret u), z => exact I.after z
  | .ok .next, z => exact z.elim
  | .ok .brk, z => exact z.elim
  | .ok .cont, z => exact z.elim
theorem pe_callSD (F : FnOk X.prog X.w X.K X.mg X.base CX k f fd ps sp) (hr : Room k X.A) (hg : Gl X x) (hm : X.mg x = some (.ref f)) (hk : PySem.W.keepIn X.K (.ref f) = true) (hb : Binds X.K fd ps ds) (hd : Vals dvs ds) (hx : ∀ σ, PassesAt CX X σ (E σ)) (ha : PA X (e :: es) t)
    (hdb : (x == ("__debug__" : Str)) = false := by decide) (he : starEach (e :: es) X.env = (false, eval e X.env) :: starEach es X.env := by rfl) (hpl : (backTo pos (starEach es X.env)).any (·.1) = false := by rfl) : PE X (.Call (.Name x p) (e :: es) [] pos) (tCallSD sp dvs E t) := by
  refine ⟨fun pins s σ H Q I h => PySem.wpAny_Call_Name_kw (ld_glob I hg hm ?_ hdb)⟩
  exact PySem.W.callWith_K (h₀ := X.base) I.ok.mod.kin hk (thn (ha.run pos pins s σ H _ I h) fun us s1 ⟨vs, H1, I1, r, z⟩ => ⟨I1.kIn, run_fnSD F hr hb hd (hx σ) I1 r z⟩) he hpl
end

inductive Fr where
  | ok (v : Va) (st : List Ob) | ex (x : Xc) (st : List Ob) | no
abbrev Fs := List D → List Ob → Fr
/-- n parameters, N slots, the body -/
def fnOf (n N : Nat) (sv : Sx) : Fs := fun ds st => if ds.length = n then (match sv ⟨ds.map .im ++ List.replicate (N - n) .un, st⟩ with
  | .nx s => .ok (.im .non) s.st
  | .rt (.im d) s => .ok (.im d) s.st
  | .rt (.fr o) s => .ok (.fr o) s.st
  | .ex x s => .ex x s.st
  | _ => .no) else .no
structure RelG (K : PySem.W.Frag) (F : Hp) (al : List Addr) (H : Hp) (st : List Ob) : Prop where
  sub : Sub F H
  clen : al.length = st.length
  cell : ∀ (i : Nat) (a : Addr) (o : Ob), al[i]? = some a → st[i]? = some o → F a = none ∧ ∃ ho, H a = some ho ∧ ObR K al F o ho
  nd : al.Nodup
def VfR (K : PySem.W.Frag) (al : List Addr) (F H H0 : Hp) (w : V) : Va → Prop
  | .im d => Dat K al F d w
  | .fr o => ∃ a ho, w = .ref a ∧ F a = none ∧ a ∉ al ∧ H a = some ho ∧ ObR K al F o ho ∧ H0 a = none
  | .pl _ => False
def FrW (K : PySem.W.Frag) (F : Hp) (al : List Addr) (H : Hp) (Q : VK) (E : XK) : Fr → Prop
  | .ok v st' => ∀ (w : V) (F' : Hp) (al' : List Addr) (H' : Hp), RelG K F' al' H' st' → Ext (fun a => a ∈ al) (fun _ => False) F al H F' al' H' → VfR K al' F' H' H w v → Q w H'
  | .ex x st' => ∀ (cls : Value) (d : Option Addr) (F' : Hp) (al' : List Addr) (H' : Hp), RelG K F' al' H' st' → Ext (fun a => a ∈ al) (fun _ => False) F al H F' al' H' → XcR K al' F' H' cls d x → E cls d H'
  | .no => False
/-- the promise of a def that does f -/
def spOf (K : PySem.W.Frag) (f : Fs) : Sp := fun vs H Q E => ∃ (F : Hp) (al : List Addr) (st : List Ob) (ds : List D), RelG K F al H st ∧ DatL K al F ds vs ∧ FrW K F al H Q E (f ds st)
/-- how exceptions lie behind a call -/
abbrev CV (P : Program) (w : World) : CXT := L2.CX P w
def apF (f : Fs) (ds : List D) : M Va := fun s => match f ds s.st with
  | .ok v st => .ok v { s with st := st }
  | .ex x st => .ex x { s with st := st }
  | .no => .no
section
variable {K : PySem.W.Frag} {E : Ent} {W : Wx} {σ : L2.St} {s : S} {F F1 F' H H1 H' : Hp} {al al1 al' : List Addr} {st' : List Ob} {f : Fs}
theorem Rel.g (r : Rel K E F al H σ s) : RelG K F al H s.st := ⟨r.sub, r.clen, r.cell, r.nd⟩
theorem Rel.call (r : Rel K E F al H σ s) (g : RelG K F' al' H' st') (x : Ext (fun a => a ∈ al) (fun _ => False) F al H F' al' H') : Rel K E F' al' H' σ { s with st := st' } ∧ Stp σ s { s with st := st' } F al H F' al' H' := by
  refine ⟨⟨g.sub, g.clen, g.cell, g.nd, r.elen, fun i sl v h1 h2 => ?_, r.own, r.ent.trans x (fun a ha => ?_) (fun _ z => z.elim), r.onew⟩, x.mono (fun a ha => .inl (.inl ha)) (fun _ z => z.elim), .refl _⟩
  · have q := r.env i sl v h1 h2
    cases sl with
    | un => exact True.intro
    | im d =>
      obtain ⟨y, e, q⟩ := q
      exact ⟨y, e, q.mono x.gr⟩
    | ow p o =>
      obtain ⟨a, ho, e, q1, q2, q3, q4⟩ := q
      refine ⟨a, ho, e, ?_, fun hm => ?_, x.keep a ho q3 q2, q4.mono x.gr⟩
      · cases z : F' a with
        | none => rfl
        | some u =>
          rcases x.fn a u z with h | h | h
          · rw [q1] at h; cases h
          · rw [q3] at h; cases h
          · exact h.elim
      · obtain ⟨l, e, n⟩ := x.al
        rw [e] at hm
        rcases List.mem_append.mp hm with hm | hm
        · exact q2 hm
        · rw [n a hm] at q3; cases q3
  · obtain ⟨l, e, n⟩ := r.ent.al
    rw [e] at ha
    rcases List.mem_append.mp ha with ha | ha
    · exact .inl (.inl ha)
    · exact .inr (n a ha)
theorem sat_ap {ds : List D} {vs : List V} (rel : Rel K E F al H σ s) (d : DatL K al F ds vs) : Sat K E W (VR K E σ) F al H σ s (fun Q => spOf K f vs H Q (WE W σ)) (apF f ds s) := by
  unfold apF
  cases hf : f ds s.st with
  | no => exact True.intro
  | ok v st =>
    refine fun Q hQ => ⟨F, al, s.st, ds, rel.g, d, ?_⟩
    rw [hf]
    refine fun w F' al' H' g x vf => ?_
    obtain ⟨r2, s2⟩ := rel.call g x
    refine hQ w F' al' H' r2 s2 ?_
    cases v with
    | im d => exact vf
    | fr o =>
      obtain ⟨a, ho, e, h1, h2, h3, h4, h5⟩ := vf
      obtain ⟨f1, f2, f3⟩ := rel.fresh h5
      refine ⟨a, ho, e, h1, h3, h4, fun t => ?_, f3, h5⟩
      rcases t with t | t
      · exact h2 t
      · exact f2 (.inr t)
    | pl i => exact vf.elim
  | ex x st =>
    refine fun Q hQ => ⟨F, al, s.st, ds, rel.g, d, ?_⟩
    rw [hf]
    refine fun cls dd F' al' H' g x q => ?_
    obtain ⟨r2, s2⟩ := rel.call g x
    exact hQ cls dd F' al' H' r2 s2 q
end
/-- a datum that every heap has alike -/
def D.v0 : D → V
  | .bl b => .bl b
  | .int i => .int i
  | .str x => .str x
  | .ty n => .ty n
  | _ => .non
def D.flat : D → Bool
  | .non => true
  | .bl _ => true
  | .int _ => true
  | .str _ => true
  | .ty _ => true
  | _ => false
theorem flat_dat {K : PySem.W.Frag} {al : List Addr} {F : Hp} : ∀ {ds : List D}, ds.all D.flat = true → DatL K al F ds (ds.map D.v0)
  | [], _ => .nil
  | d :: ds, h => by
    simp only [List.all_cons, Bool.and_eq_true] at h
    refine .cons ?_ (flat_dat h.2)
    cases d with
    | non => exact .non
    | bl b => exact .bl b
    | int i => exact .int i
    | str x => exact .str x
    | ty n => exact .ty n
    | _ => cases h.1
def evCall (f : Fs) (des : List D) (m : M (List D)) : M Va := m >>= fun ds => apF f (ds ++ des)
def evCallK (f : Fs) (g : {α : Type} → List α → List α → List α → List α) (n k : Nat) (ms : List D) (m mk : M (List D)) : M Va := m >>= fun ds => mk >>= fun es => fun s => if ds.length = n ∧ es.length = k then apF f (g ds ms es) s else .no
section
variable {K : PySem.W.Frag} {W : Wx} {f : Fs} {ta tk : TA} {m mk : M (List D)} {des : List D}
theorem good_call (ga : GoodA K W ta m) (hd : des.all D.flat = true) : GoodE K W (tCallSD (spOf K f) (des.map D.v0) (WE W) ta) (evCall f des m) := fun E F al H σ s rel => by
  refine Sat.bind (u := fun vs H1 Q => spOf K f (vs ++ des.map D.v0) H1 Q (WE W σ)) VR.low (ga E F al H σ s rel) fun ds s1 ws F1 al1 H1 _ rel1 st1 v1 => ?_
  exact sat_ap rel1 (DatL.app v1 (flat_dat hd))
def tCallNS (n m : Nat) (sp : Sp) (gV : List V → List V → List V) (E : L2.St → XK) (t tk : TA) : TE := fun σ H Q => t σ H fun vs H1 => tk σ H1 fun zs H2 => vs.length = n ∧ zs.length = m ∧ sp (gV vs zs) H2 Q (E σ)
theorem good_callK {g : {α : Type} → List α → List α → List α → List α} {n k : Nat} (ga : GoodA K W ta m) (gk : GoodA K W tk mk) (hg : ∀ (al : List Addr) (F : Hp) (ds es : List D) (vs zs : List V), DatL K al F ds vs → DatL K al F es zs → DatL K al F (g ds des es) (g vs (des.map D.v0) zs)) :
    GoodE K W (tCallNS n k (spOf K f) (fun vs zs => g vs (des.map D.v0) zs) (WE W) ta tk) (evCallK f g n k des m mk) := fun E F al H σ s rel => by
  refine Sat.bind (u := fun vs H1 Q => tk σ H1 fun zs H2 => vs.length = n ∧ zs.length = k ∧ spOf K f (g vs (des.map D.v0) zs) H2 Q (WE W σ)) VR.low (ga E F al H σ s rel) fun ds s1 ws F1 al1 H1 _ rel1 st1 v1 => ?_
  refine Sat.bind (u := fun zs H2 Q => ws.length = n ∧ zs.length = k ∧ spOf K f (g ws (des.map D.v0) zs) H2 Q (WE W σ)) VR.low (gk E F1 al1 H1 σ s1 rel1) fun es s2 zs F2 al2 H2 _ rel2 st2 v2 => ?_
  show Sat K E W (VR K E σ) F2 al2 H2 σ s2 _ (if ds.length = n ∧ es.length = k then apF f (g ds des es) s2 else .no)
  have v1 : DatL K al1 F1 ds ws := v1
  have v2 : DatL K al2 F2 es zs := v2
  by_cases h : ds.length = n ∧ es.length = k
  · rw [if_pos h]
    exact (sat_ap rel2 (hg al2 F2 ds es ws zs (v1.mono st2.gr) v2)).imp fun Q q => ⟨by rw [← v1.length]; exact h.1, by rw [← v2.length]; exact h.2, q⟩
  · rw [if_neg h]; exact True.intro
end

/-! ### a def as a callee -/
section
variable (P : Program) (w : World) (K : PySem.W.Frag) (mg : Str → Option Value) (base : Heap)
/-- the module's def x does f; des fill the arguments up -/
def FnP (k : Nat) (x : Str) (des : List D) (f : Fs) : Prop := ∃ (a : Addr) (fd : FuncData) (ps : List Str) (ds : List Value), FnOk P w K mg base (CV P w) k a fd ps (spOf K f) ∧ mg x = some (.ref a) ∧ PySem.W.keepIn K (.ref a) = true ∧ Binds K fd ps ds ∧ Vals (des.map D.v0) ds ∧ des.all D.flat = true
def FnK (k : Nat) (x : Str) (n : Nat) (ks : List Str) (g : {α : Type} → List α → List α → List α → List α) (ms : List D) (f : Fs) : Prop := ∃ (a : Addr) (fd : FuncData) (ps : List Str) (mv : List Value), FnOk P w K mg base (CV P w) k a fd ps (spOf K f) ∧ mg x = some (.ref a) ∧ PySem.W.keepIn K (.ref a) = true ∧
  KBn K fd ps n ks (fun us ws => g us mv ws) (fun vs zs => g vs (ms.map D.v0) zs) ∧ ∀ (al : List Addr) (F : Hp) (ds es : List D) (vs zs : List V), DatL K al F ds vs → DatL K al F es zs → DatL K al F (g ds ms es) (g vs (ms.map D.v0) zs)
end
/-- what a body's derivation stands on -/
structure Bx (X : Cx) (W : Wx) : Prop where
  own : PassesOwn (model X.prog X.w) X.A X.env X.xe
  tk : L2.Takes X W
theorem Bx.at_ {X : Cx} {W : Wx} (b : Bx X W) (σ : L2.St) : PassesAt (CV X.prog X.w) X σ (WE W σ) := passAt b.tk σ
theorem takes0 {X : Cx} : L2.Takes X W0 := fun _ _ ⟨_, _, _, _, _, _, _, _, _, _, _, _, _, _, _, _, w⟩ => w.elim
section
variable {X : Cx} {CX : CXT} {k n : Nat} {f : Addr} {fd : FuncData} {ps ks : List Str} {sp : Sp} {E : L2.St → XK} {x : Str} {p pos : Pos} {e : Expr} {es : List Expr} {kws : List Keyword} {t tk : TA} {g : List Value → List Value → List Value} {gV : List V → List V → List V}
theorem run_fnNS {pins : List (Addr × Obj)} {σ : L2.St} {H : Hp} {s : Shared} {Q : VK} {us ws : List Value} {vs zs : List V} (F : FnOk X.prog X.w X.K X.mg X.base CX k f fd ps sp) (hr : Room k X.A) (hb : KBn X.K fd ps n ks g gV) (hx : PassesAt CX X σ (E σ))
    (I : Inv X pins σ H s) (r : Vals vs us) (rz : Vals zs ws) (l1 : vs.length = n) (l2 : zs.length = ks.length) (h : sp (gV vs zs) H Q (E σ)) : wpAny (model X.prog X.w) X.A (call (.ref f) us (ks.zip ws)) (EP X pins σ Q) X.xe s := by
  have r2 := hb.rel r rz
  refine PySem.wpAny_call (PySem.codeAny_mono (F.run X.A X.stack s H ⟨us, ks.zip ws⟩ (g us ws) (gV vs zs) Q (E σ) hr I.env0 (hb.to s us ws I.kIn (r.length.symm.trans l1) (rz.length.symm.trans l2)) r2 h) fun r s' hq => ?_)
  cases r with
  | error e => exact hx pins H s e s' I hq
  | ok fl =>
    cases fl with
    | ret u => exact I.after hq
    | next => exact False.elim hq
    | brk => exact False.elim hq
    | cont => exact False.elim hq
theorem pe_callNS (F : FnOk X.prog X.w X.K X.mg X.base CX k f fd ps sp) (hr : Room k X.A) (hg : Gl X x) (hm : X.mg x = some (.ref f)) (hk : PySem.W.keepIn X.K (.ref f) = true) (hb : KBn X.K fd ps n ks g gV) (hx : ∀ σ, PassesAt CX X σ (E σ))
    (ha : PA X (e :: es) t) (hkw : PK X kws tk) (hall : (backToKw pos (keywordEach kws X.env)).all (·.1.isSome) = true := by rfl) (hks : (backToKw pos (keywordEach kws X.env)).filterMap (·.1) = ks := by rfl)
    (hdb : (x == ("__debug__" : Str)) = false := by decide) (he : starEach (e :: es) X.env = (false, eval e X.env) :: starEach es X.env := by rfl)
    (hpl : ((backTo pos (starEach (e :: es) X.env)).any (·.1) || (backToKw pos (keywordEach kws X.env)).any (·.1.isNone)) = false := by rfl) :
    PE X (.Call (.Name x p) (e :: es) kws pos) (tCallNS n ks.length sp gV E t tk) := by
  refine ⟨fun pins s σ H Q I h => ?_⟩
  refine PySem.wpAny_Call_Name_kw (ld_glob I hg hm ?_ hdb)
  refine PySem.W.callWith_KW (h₀ := X.base) I.ok.mod.kin hk hall (thn (ha.run pos pins s σ H _ I h) fun us s1 ⟨vs, H1, I1, r, q⟩ => ?_) hpl he
  refine thn (hkw.run pos pins s1 σ H1 _ I1 q) fun ws s2 ⟨zs, H2, I2, rz, l1, l2, q2⟩ => ⟨I2.kIn, ?_⟩
  rw [hks]
  exact run_fnNS F hr hb (hx σ) I2 r rz l1 l2 q2
theorem pe_callNS0 (F : FnOk X.prog X.w X.K X.mg X.base CX k f fd ps sp) (hr : Room k X.A) (hg : Gl X x) (hm : X.mg x = some (.ref f)) (hk : PySem.W.keepIn X.K (.ref f) = true) (hb : KBn X.K fd ps 0 ks g gV) (hx : ∀ σ, PassesAt CX X σ (E σ))
    (hkw : PK X kws tk) (hall : (backToKw pos (keywordEach kws X.env)).all (·.1.isSome) = true := by rfl) (hks : (backToKw pos (keywordEach kws X.env)).filterMap (·.1) = ks := by rfl)
    (hdb : (x == ("__debug__" : Str)) = false := by decide)
    (hpl : ((backTo pos (starEach [] X.env)).any (·.1) || (backToKw pos (keywordEach kws X.env)).any (·.1.isNone)) = false := by rfl) :
    PE X (.Call (.Name x p) [] kws pos) (tCallNS 0 ks.length sp gV E tNil tk) := by
  refine ⟨fun pins s σ H Q I h => ?_⟩
  refine PySem.wpAny_Call_Name_kw (ld_glob I hg hm ?_ hdb)
  refine PySem.W.callWith_KW0 (h₀ := X.base) I.ok.mod.kin hk hall ?_ hpl
  refine thn (hkw.run pos pins s σ H _ I h) fun ws s2 ⟨zs, H2, I2, rz, l1, l2, q2⟩ => ⟨I2.kIn, ?_⟩
  rw [hks]
  exact run_fnNS (us := []) (vs := []) F hr hb (hx σ) I2 .nil rz rfl l2 q2
theorem pe_callSD0 {dvs : List V} {ds : List Value} (F : FnOk X.prog X.w X.K X.mg X.base CX k f fd ps sp) (hr : Room k X.A) (hg : Gl X x) (hm : X.mg x = some (.ref f)) (hk : PySem.W.keepIn X.K (.ref f) = true) (hb : Binds X.K fd ps ds) (hd : Vals dvs ds) (hx : ∀ σ, PassesAt CX X σ (E σ))
    (hdb : (x == ("__debug__" : Str)) = false := by decide) : PE X (.Call (.Name x p) [] [] pos) (tCallSD sp dvs E tNil) := by
  refine ⟨fun pins s σ H Q I h => ?_⟩
  refine PySem.wpAny_Call_Name_kw (ld_glob I hg hm ?_ hdb)
  exact PySem.W.callWith_K0 I.kIn hk (run_fnSD (us := []) F hr hb hd (hx σ) I .nil h)
end
section
variable {X : Cx} {W : Wx} {K : PySem.W.Frag} {k n : Nat} {x : Str} {des : List D} {f : Fs} {p pos : Pos} {e : Expr} {es : List Expr} {kws : List Keyword} {th tk : TA} {m mk : M (List D)}
theorem se_call (hF : FnP X.prog X.w K X.mg X.base k x des f) (hr : Room k X.A) (hx : ∀ σ, PassesAt (CV X.prog X.w) X σ (WE W σ)) (ha : SA X K W (e :: es) th m) (hg : Gl X x := by rfl)
    (hdb : (x == ("__debug__" : Str)) = false := by decide) (he : starEach (e :: es) X.env = (false, eval e X.env) :: starEach es X.env := by rfl) (hpl : (backTo pos (starEach es X.env)).any (·.1) = false := by rfl) :
    SE X K W (.Call (.Name x p) (e :: es) [] pos) (tCallSD (spOf K f) (des.map D.v0) (WE W) th) (evCall f des m) := by
  obtain ⟨rfl, pa, ga⟩ := ha
  obtain ⟨a, fd, ps, ds, hf, hm, hk, hb, hv, hfl⟩ := hF
  exact ⟨rfl, pe_callSD hf hr hg hm hk hb hv hx pa hdb he hpl, good_call ga hfl⟩
theorem se_call0 (hF : FnP X.prog X.w K X.mg X.base k x des f) (hr : Room k X.A) (hx : ∀ σ, PassesAt (CV X.prog X.w) X σ (WE W σ)) (hK : X.K = K := by rfl) (hg : Gl X x := by rfl)
    (hdb : (x == ("__debug__" : Str)) = false := by decide) :
    SE X K W (.Call (.Name x p) [] [] pos) (tCallSD (spOf K f) (des.map D.v0) (WE W) tNil) (evCall f des evNil) := by
  subst hK
  obtain ⟨a, fd, ps, ds, hf, hm, hk, hb, hv, hfl⟩ := hF
  exact ⟨rfl, pe_callSD0 hf hr hg hm hk hb hv hx hdb, good_call (sa_nil (W := W)).2.2 hfl⟩
/-- keywords' values -/
def SK (X : Cx) (K : PySem.W.Frag) (W : Wx) (kws : List Keyword) (ta : TA) (ev : M (List D)) : Prop := X.K = K ∧ PK X kws ta ∧ GoodA K W ta ev
theorem sk_nil (hK : X.K = K := by rfl) : SK X K W [] tNil evNil := ⟨hK, pk_nil, (sa_nil (X := X) (W := W) (K := K) hK).2.2⟩
theorem good_cons {te : TE} {ev : M Va} {t : TA} {evs : M (List D)} (ge : GoodE K W te ev) (ga : GoodA K W t evs) : GoodA K W (tCons te t) (evCons ev evs) := fun E F al H σ s rel => by
  refine Sat.bind (u := fun x H1 Q => t σ H1 fun xs H2 => Q (x :: xs) H2) LR.low (ge E F al H σ s rel).esc fun d s1 w1 F1 al1 H1 _ rel1 st1 v1 => ?_
  refine Sat.bind (u := fun xs H2 Q => Q (w1 :: xs) H2) LR.low (ga E F1 al1 H1 σ s1 rel1) fun ds s2 w2 F2 al2 H2 _ rel2 st2 v2 => ?_
  exact fun Q hQ => hQ _ F2 al2 H2 rel2 .refl (.cons (v1.mono st2.gr) v2)
theorem sk_cons {nm : Option Str} {kpos : Pos} {te : TE} {ev : M Va} {evs : M (List D)} (he : SE X K W e te ev) (hr : SK X K W kws th evs) : SK X K W (⟨nm, e, kpos⟩ :: kws) (tCons te th) (evCons ev evs) := by
  obtain ⟨hK, p, g⟩ := he
  obtain ⟨_, q, k⟩ := hr
  exact ⟨hK, pk_cons p q, good_cons g k⟩
theorem se_callK {ks : List Str} {g : {α : Type} → List α → List α → List α → List α} (hF : FnK X.prog X.w K X.mg X.base k x n ks g des f) (hr : Room k X.A) (hx : ∀ σ, PassesAt (CV X.prog X.w) X σ (WE W σ)) (ha : SA X K W (e :: es) th m) (hkw : SK X K W kws tk mk) (hg : Gl X x := by rfl)
    (hall : (backToKw pos (keywordEach kws X.env)).all (·.1.isSome) = true := by rfl) (hks : (backToKw pos (keywordEach kws X.env)).filterMap (·.1) = ks := by rfl)
    (hdb : (x == ("__debug__" : Str)) = false := by decide) (he : starEach (e :: es) X.env = (false, eval e X.env) :: starEach es X.env := by rfl)
    (hpl : ((backTo pos (starEach (e :: es) X.env)).any (·.1) || (backToKw pos (keywordEach kws X.env)).any (·.1.isNone)) = false := by rfl) :
    SE X K W (.Call (.Name x p) (e :: es) kws pos) (tCallNS n ks.length (spOf K f) (fun vs zs => g vs (des.map D.v0) zs) (WE W) th tk) (evCallK f g n ks.length des m mk) := by
  obtain ⟨rfl, pa, ga⟩ := ha
  obtain ⟨_, pk, gk⟩ := hkw
  obtain ⟨a, fd, ps, mv, hf, hm, hk, hb, hv⟩ := hF
  exact ⟨rfl, pe_callNS hf hr hg hm hk hb hx pa pk hall hks hdb he hpl, good_callK ga gk hv⟩
theorem se_callK0 {ks : List Str} {g : {α : Type} → List α → List α → List α → List α} (hF : FnK X.prog X.w K X.mg X.base k x 0 ks g des f) (hr : Room k X.A) (hx : ∀ σ, PassesAt (CV X.prog X.w) X σ (WE W σ)) (hkw : SK X K W kws tk mk) (hg : Gl X x := by rfl)
    (hall : (backToKw pos (keywordEach kws X.env)).all (·.1.isSome) = true := by rfl) (hks : (backToKw pos (keywordEach kws X.env)).filterMap (·.1) = ks := by rfl)
    (hdb : (x == ("__debug__" : Str)) = false := by decide)
    (hpl : ((backTo pos (starEach [] X.env)).any (·.1) || (backToKw pos (keywordEach kws X.env)).any (·.1.isNone)) = false := by rfl) :
    SE X K W (.Call (.Name x p) [] kws pos) (tCallNS 0 ks.length (spOf K f) (fun vs zs => g vs (des.map D.v0) zs) (WE W) tNil tk) (evCallK f g 0 ks.length des evNil mk) := by
  obtain ⟨rfl, pk, gk⟩ := hkw
  obtain ⟨a, fd, ps, mv, hf, hm, hk, hb, hv⟩ := hF
  exact ⟨rfl, pe_callNS0 hf hr hg hm hk hb hx pk hall hks hdb hpl, good_callK (sa_nil (X := X) (W := W)).2.2 gk hv⟩
end

/-! ### a def keeps its promise -/
theorem start_len {N : List Str} {vs : List V} (h : vs.length ≤ N.length) : (L2.start N vs).length = N.length := by
  unfold L2.start
  rw [List.length_append, List.length_map, List.length_replicate]
  omega
section
variable {P : Program} {w : World} {K : PySem.W.Frag} {mg : Str → Option Value} {base : Heap} {x qual : Str} {params : Arguments} {body : List Stmt} {scope : Scope} {dvs : List V} {kws : List (Str × V)} {f : Addr} {fd : FuncData}
theorem DatL.im_at {al : List Addr} {F : Hp} {ds : List D} {vs : List V} (d : DatL K al F ds vs) (k : Nat) {i : Nat} {sl : Sl} {v : Option V} (h1 : (ds.map Sl.im ++ List.replicate k .un)[i]? = some sl) (h2 : (vs.map some ++ List.replicate k none)[i]? = some v) : (sl = .un) ∨ ∃ e u, sl = .im e ∧ v = some u ∧ Dat K al F e u := by
  by_cases hi : i < ds.length
  · rw [List.getElem?_append_left (by rw [List.length_map]; exact hi), List.getElem?_map] at h1
    rw [List.getElem?_append_left (by rw [List.length_map, ← d.length]; exact hi), List.getElem?_map] at h2
    rw [List.getElem?_eq_getElem hi] at h1
    obtain ⟨u, hu, du⟩ := d.getD (i := i) (List.getElem?_eq_getElem hi)
    rw [hu] at h2
    cases h1; cases h2
    exact .inr ⟨_, _, rfl, rfl, du⟩
  · rw [List.getElem?_append_right (by rw [List.length_map]; omega), List.getElem?_replicate] at h1
    split at h1
    · cases h1; exact .inl rfl
    · cases h1
theorem fn_ok {N ps : List Str} {k : Nat} {sv : Sx} (F : FunD K x qual params body scope dvs kws f fd) (SC : FnScope N ps scope)
    (hb : ∀ (cdv : Value) (A : Around) (outer : List Env) (s : Shared) (H : Hp) (E : XK), Room k (A.deeper (PyProof.Rows.envOfC qual scope s.heap.objs.size f cdv)) → Bx (cxOf (CV P w) P w K mg base N qual scope f cdv A outer s H E) (fun cls d _ H => E cls d H) →
      ∃ t, SSs (cxOf (CV P w) P w K mg base N qual scope f cdv A outer s H E) K (fun cls d _ H => E cls d H) body t sv) : FnOk P w K mg base (CV P w) (k + 1) f fd ps (spOf K (fnOf ps.length N.length sv)) := by
  have len : ∀ vs H Q E, spOf K (fnOf ps.length N.length sv) vs H Q E → vs.length = ps.length := fun vs H Q E ⟨F, al, st, ds, g, d, h⟩ => by
    unfold fnOf at h
    split at h
    · rename_i hl; rw [← d.length]; exact hl
    · exact h.elim
  refine fnD_ok F SC len fun cdv A outer s H vs Q E hr h => ?_
  have tk : L2.Takes (cxOf (CV P w) P w K mg base N qual scope f cdv A outer s H E) (fun cls d _ H => E cls d H) := L2.takes_of rfl rfl rfl rfl
  obtain ⟨t, _, p, g⟩ := hb cdv A outer s H E hr ⟨PassesOwn.leaving, tk⟩
  refine ⟨t, p, ?_⟩
  have hlen := len _ _ _ _ h
  obtain ⟨F0, al, st, ds, rg, d, h⟩ := h
  have hl : ds.length = ps.length := by rw [d.length]; exact hlen
  have hN : ps.length ≤ N.length := by
    have := congrArg List.length SC.pre
    rw [List.length_take] at this
    omega
  unfold fnOf at h
  rw [if_pos hl] at h
  have eN : N.length - vs.length = N.length - ps.length := by rw [hlen]
  have rel : Rel K ⟨F0, al, H, []⟩ F0 al H (L2.start N vs) ⟨ds.map .im ++ List.replicate (N.length - ps.length) Sl.un, st⟩ := by
    have inv : ∀ (i : Nat) (p : Bool) (o : Ob), (ds.map Sl.im ++ List.replicate (N.length - ps.length) Sl.un)[i]? ≠ some (.ow p o) := fun i p o hh => by
      rcases List.mem_append.mp (List.mem_of_getElem? hh) with m | m
      · obtain ⟨_, _, e⟩ := List.mem_map.mp m; cases e
      · cases List.eq_of_mem_replicate m
    refine ⟨rg.sub, rg.clen, rg.cell, rg.nd, by show (ds.map Sl.im ++ List.replicate (N.length - ps.length) Sl.un).length = _; rw [start_len (by omega), List.length_append, List.length_map, List.length_replicate]; omega, fun i sl v h1 h2 => ?_, fun i j p q o u a h1 => absurd h1 (inv i p o), .refl, fun i p o a h1 => absurd h1 (inv i p o)⟩
    unfold L2.start at h2
    rw [eN] at h2
    rcases d.im_at _ h1 h2 with e | ⟨e, u, rfl, rfl, q⟩
    · subst e; exact True.intro
    · exact ⟨u, rfl, q⟩
  refine g _ F0 al H _ _ _ rel ?_
  have ext : ∀ {F' : Hp} {al' : List Addr} {H' : Hp} {σ' : L2.St} {s' : S}, Rel K ⟨F0, al, H, []⟩ F' al' H' σ' s' → Ext (fun a => a ∈ al) (fun _ => False) F0 al H F' al' H' := fun r => r.ent.mono (fun a ha => by
    rcases ha with ha | ha
    · exact .inl ha
    · exact absurd ha (by simp)) (fun _ z => z.elim)
  cases hs : sv ⟨ds.map .im ++ List.replicate (N.length - ps.length) Sl.un, st⟩ with
  | nx s' =>
    rw [hs] at h
    exact fun F' al' H' σ' r _ => h .non F' al' H' r.g (ext r) .non
  | rt v s' =>
    rw [hs] at h
    cases v with
    | im e => exact fun u F' al' H' σ' r _ q _ => h u F' al' H' r.g (ext r) q
    | fr o =>
      refine fun u F' al' H' σ' r _ q _ => h u F' al' H' r.g (ext r) ?_
      obtain ⟨a, ho, e, h1, h2, h3, h4, h5, _⟩ := q
      exact ⟨a, ho, e, h1, fun m => h4 (.inl m), h2, h3, h5⟩
    | pl i => exact h.elim
  | ex xc s' =>
    rw [hs] at h
    exact fun cls dd F' al' H' σ' r _ q => h cls dd F' al' H' r.g (ext r) q
  | bk s' => rw [hs] at h; exact h.elim
  | ct s' => rw [hs] at h; exact h.elim
  | no => rw [hs] at h; exact h.elim
end
end VI
end
section
set_option Elab.async false
set_option linter.all false
set_option maxRecDepth 100000
set_option maxHeartbeats 2000000
/-! V13: borrowed arguments, built-in functions, methods that read, methods and stores that change. -/
namespace VI
open PySem PySem.Spec L2

/-! ### borrowed arguments -/
inductive VLR (K : PySem.W.Frag) (E : Ent) (Hs : Hp) (al : List Addr) (F H : Hp) (σ : L2.St) (s : S) : List V → List Va → Prop
  | nil : VLR K E Hs al F H σ s [] []
  | cons {w : V} {va : Va} {ws : List V} {vas : List Va} : VaR K E Hs al F H σ s w va → VLR K E Hs al F H σ s ws vas → VLR K E Hs al F H σ s (w :: ws) (va :: vas)
abbrev VL (K : PySem.W.Frag) (E : Ent) (σ : L2.St) : Hp → List Addr → Hp → Hp → S → List V → List Va → Prop := fun Hs al F H s ws vas => VLR K E Hs al F H σ s ws vas
theorem VL.low {K : PySem.W.Frag} {E : Ent} {σ : L2.St} : Low (VL K E σ) := fun H H1 al F' H' s' w a hl r => by
  induction r with
  | nil => exact .nil
  | cons h _ ih => exact .cons (VR.low H H1 al F' H' s' _ _ hl h) ih
theorem VLR.mono {K : PySem.W.Frag} {E : Ent} {Hs F F1 H H1 : Hp} {al al1 : List Addr} {σ : L2.St} {s s1 : S} {ws : List V} {vas : List Va} (r : VLR K E Hs al F H σ s ws vas) (a : Stp σ s s1 F al H F1 al1 H1) : VLR K E Hs al1 F1 H1 σ s1 ws vas := by
  induction r with
  | nil => exact .nil
  | cons h _ ih => exact .cons (h.mono a) ih
def GoodV (K : PySem.W.Frag) (W : Wx) (ta : TA) (ev : M (List Va)) : Prop := ∀ (E : Ent) (F : Hp) (al : List Addr) (H : Hp) (σ : L2.St) (s : S), Rel K E F al H σ s → Sat K E W (VL K E σ) F al H σ s (ta σ H) (ev s)
def SV (X : Cx) (K : PySem.W.Frag) (W : Wx) (es : List Expr) (ta : TA) (ev : M (List Va)) : Prop := X.K = K ∧ PA X es ta ∧ GoodV K W ta ev
def evNilV : M (List Va) := pure []
def evConsV (m : M Va) (r : M (List Va)) : M (List Va) := m >>= fun v => r >>= fun vs => pure (v :: vs)
def rdAll (s : S) : List Va → Option (List D)
  | [] => some []
  | v :: vs => match rd v s, rdAll s vs with
    | some d, some ds => some (d :: ds)
    | _, _ => none
inductive RdL (K : PySem.W.Frag) (al : List Addr) (F H : Hp) : List D → List V → Prop
  | nil : RdL K al F H [] []
  | cons {d : D} {w : V} {ds : List D} {ws : List V} : Rdr K al F H d w → RdL K al F H ds ws → RdL K al F H (d :: ds) (w :: ws)
theorem rdAll_ok {K : PySem.W.Frag} {E : Ent} {Hs F H : Hp} {al : List Addr} {σ : L2.St} {s : S} {ws : List V} {vas : List Va} (rel : Rel K E F al H σ s) (r : VLR K E Hs al F H σ s ws vas) : ∀ {ds : List D}, rdAll s vas = some ds → RdL K al F H ds ws := by
  induction r with
  | nil => intro ds h; cases h; exact .nil
  | cons h _ ih =>
    intro ds e
    unfold rdAll at e
    split at e
    · rename_i d ds hd hds
      cases e
      exact .cons (rd_ok rel h hd) (ih hds)
    · cases e
theorem RdL.one {K : PySem.W.Frag} {al : List Addr} {F H : Hp} {d : D} {ws : List V} (h : RdL K al F H [d] ws) : ∃ w, ws = [w] ∧ Rdr K al F H d w := by
  obtain _ | ⟨h1, h2⟩ := h
  cases h2
  exact ⟨_, rfl, h1⟩
theorem RdL.two {K : PySem.W.Frag} {al : List Addr} {F H : Hp} {d e : D} {ws : List V} (h : RdL K al F H [d, e] ws) : ∃ w u, ws = [w, u] ∧ Rdr K al F H d w ∧ Rdr K al F H e u := by
  obtain _ | ⟨h1, h2⟩ := h
  obtain ⟨u, rfl, h3⟩ := h2.one
  exact ⟨_, u, rfl, h1, h3⟩
section
variable {X : Cx} {W : Wx} {K : PySem.W.Frag}
theorem good_nilV : GoodV K W tNil evNilV := fun E F al H σ s rel => fun Q hQ => hQ [] F al H rel .refl .nil
theorem good_consV {te : TE} {t : TA} {ev : M Va} {evs : M (List Va)} (ge : GoodE K W te ev) (ga : GoodV K W t evs) : GoodV K W (tCons te t) (evConsV ev evs) := fun E F al H σ s rel => by
  refine Sat.bind2 (u := fun x H1 Q => t σ H1 fun xs H2 => Q (x :: xs) H2) (ge E F al H σ s rel) fun va s1 w1 F1 al1 H1 _ rel1 st1 v1 => ?_
  have q := ga E F1 al1 H1 σ s1 rel1
  rw [M.bind_run]
  cases hm : evs s1 with
  | no => exact True.intro
  | ex x s2 =>
    rw [hm] at q
    exact fun Q hQ => q _ fun cls d F2 al2 H2 rel2 st2 x2 => hQ cls d F2 al2 H2 rel2 (st1.trans st2) x2
  | ok vs s2 =>
    rw [hm] at q
    exact fun Q hQ => q _ fun ws F2 al2 H2 rel2 st2 v2 => hQ _ F2 al2 H2 rel2 (st1.trans st2) (.cons (v1.mono st2) (VL.low _ _ _ _ _ _ _ _ st1.ext.live v2))
theorem sv_nil (hK : X.K = K := by rfl) : SV X K W [] tNil evNilV := ⟨hK, pa_nil, good_nilV⟩
theorem sv_cons {e : Expr} {es : List Expr} {te : TE} {t : TA} {ev : M Va} {evs : M (List Va)} (he : SE X K W e te ev) (hr : SV X K W es t evs) (hs : starEach (e :: es) X.env = (false, eval e X.env) :: starEach es X.env := by rfl) : SV X K W (e :: es) (tCons te t) (evConsV ev evs) := by
  obtain ⟨rfl, pe, ge⟩ := he
  obtain ⟨_, pa, ga⟩ := hr
  exact ⟨rfl, pa_cons pe pa hs, good_consV ge ga⟩

/-! ### built-in functions -/
/-- r carries f out on values that are read -/
def BlS (K : PySem.W.Frag) (r : List V → Hp → VK → Prop) (f : List D → Option Va) : Prop := ∀ (E : Ent) (F : Hp) (al : List Addr) (H : Hp) (σ : L2.St) (s : S) (ws : List V) (ps : List D) (va : Va), Rel K E F al H σ s → RdL K al F H ps ws → f ps = some va →
  ∀ Q : VK, (∀ w F' al' H', Rel K E F' al' H' σ s → Stp σ s s F al H F' al' H' → VaR K E H al' F' H' σ s w va → Q w H') → r ws H Q
theorem BlS.or {r r' : List V → Hp → VK → Prop} {f f' : List D → Option Va} (h : BlS K r f) (h' : BlS K r' f') : BlS K (fun xs H Q => r xs H Q ∨ r' xs H Q) (fun ps => match f ps with
    | some v => some v
    | none => f' ps) := fun E F al H σ s ws ps va rel rr e Q hQ => by
  have e : (match f ps with
    | some v => some v
    | none => f' ps) = some va := e
  cases hf : f ps with
  | some v => rw [hf] at e; exact .inl (h E F al H σ s ws ps va rel rr (by rw [hf]; exact e) Q hQ)
  | none => rw [hf] at e; exact .inr (h' E F al H σ s ws ps va rel rr e Q hQ)
theorem CallR.or {u : Value} {r r' : List V → Hp → VK → Prop} (h : CallR X u r) (h' : CallR X u r') : CallR X u (fun xs H Q => r xs H Q ∨ r' xs H Q) := fun pins s σ H xs us Q I rr hq => hq.elim (h pins s σ H xs us Q I rr) (h' pins s σ H xs us Q I rr)
def evBl (f : List D → Option Va) (m : M (List Va)) : M Va := m >>= fun vas s => match (rdAll s vas).bind f with
  | some v => .ok v s
  | none => .no
theorem good_bl {r : List V → Hp → VK → Prop} {f : List D → Option Va} {ta : TA} {m : M (List Va)} (hs : BlS K r f) (ga : GoodV K W ta m) : GoodE K W (tCB r ta) (evBl f m) := fun E F al H σ s rel => by
  refine Sat.bind (u := fun vs H1 Q => r vs H1 Q) VR.low (ga E F al H σ s rel) fun vas s1 ws F1 al1 H1 _ rel1 st1 v1 => ?_
  show Sat K E W (VR K E σ) F1 al1 H1 σ s1 _ (match (rdAll s1 vas).bind f with
    | some v => .ok v s1
    | none => .no)
  cases hr : rdAll s1 vas with
  | none => exact True.intro
  | some ps =>
    show Sat K E W (VR K E σ) F1 al1 H1 σ s1 _ (match f ps with
      | some v => .ok v s1
      | none => .no)
    cases hf : f ps with
    | none => exact True.intro
    | some v => exact fun Q hQ => hs E F1 al1 H1 σ s1 ws ps v rel1 (rdAll_ok rel1 v1 hr) hf Q hQ
theorem se_blt {x : Str} {id : String} {r : List V → Hp → VK → Prop} {f : List D → Option Va} {e : Expr} {es : List Expr} {p pos : Pos} {th : TA} {m : M (List Va)} (hc : CallR X (.builtin id) r) (hs : BlS K r f) (hv : bootBuiltins x = some (.builtin id)) (hm : X.mg x = none) (ha : SV X K W (e :: es) th m) (hg : Gl X x := by rfl) (hn : x ≠ "__name__" := by decide) (hdb : (x == ("__debug__" : Str)) = false := by decide)
    (he : starEach (e :: es) X.env = (false, eval e X.env) :: starEach es X.env := by rfl) (hpl : (backTo pos (starEach es X.env)).any (·.1) = false := by rfl) : SE X K W (.Call (.Name x p) (e :: es) [] pos) (tCB r th) (evBl f m) := by
  obtain ⟨rfl, pa, ga⟩ := ha
  exact ⟨rfl, pe_callB hc hg hm hv pa hn hdb he hpl, good_bl hs ga⟩
theorem se_ty {x : Str} {id : String} {r : List V → Hp → VK → Prop} {f : List D → Option Va} {e : Expr} {es : List Expr} {p pos : Pos} {th : TA} {m : M (List Va)} (hc : CallR X (.type id) r) (hs : BlS K r f) (hv : bootBuiltins x = some (.type id)) (hm : X.mg x = none) (ha : SV X K W (e :: es) th m) (hg : Gl X x := by rfl) (hn : x ≠ "__name__" := by decide) (hdb : (x == ("__debug__" : Str)) = false := by decide)
    (he : starEach (e :: es) X.env = (false, eval e X.env) :: starEach es X.env := by rfl) (hpl : (backTo pos (starEach es X.env)).any (·.1) = false := by rfl) : SE X K W (.Call (.Name x p) (e :: es) [] pos) (tCB r th) (evBl f m) := by
  obtain ⟨rfl, pa, ga⟩ := ha
  exact ⟨rfl, pe_callTy hc hg hm hv pa hn hdb he hpl, good_bl hs ga⟩
/-- a built-in type as a value -/
theorem se_tyv {x : Str} {n : String} {pos : Pos} (hv : bootBuiltins x = some (.type n)) (hm : X.mg x = none) (hK : X.K = K := by rfl) (hg : Gl X x := by rfl) (hn : x ≠ "__name__" := by decide) (hdb : (x == ("__debug__" : Str)) = false := by decide) : SE X K W (.Name x pos) (tC (.ty n)) (evC (.ty n)) :=
  ⟨hK, ⟨fun pins s σ H Q I h => ld_blt I hg hm hv ⟨.ty n, H, I, rfl, h⟩ hn hdb⟩, good_c fun _ _ => .ty n⟩
/-! ### len -/
def fLen : List D → Option Va
  | [.lst xs] => some (.im (.int xs.length))
  | [.tup xs] => some (.im (.int xs.length))
  | [.lz xs] => some (.im (.int xs.length))
  | [.tz xs] => some (.im (.int xs.length))
  | [.str z] => if z.length ≤ sizeLine then some (.im (.int z.length)) else none
  | [.dk kvs] => some (.im (.int kvs.length))
  | _ => none
theorem DatK.length0 {K : PySem.W.Frag} {al : List Addr} {F : Hp} {ds : List (Key × D)} {vs : List (Key × V)} (h : DatK K al F ds vs) : ds.length = vs.length := by
  induction ds generalizing vs with
  | nil => cases h; rfl
  | cons p ds ih => cases h with | cons h t => exact congrArg (· + 1) (ih t)
def rLenD (K : PySem.W.Frag) : List V → Hp → VK → Prop := fun xs H Q => ∃ a kvs, xs = [V.ref a] ∧ Rd H a (.dK kvs) ∧ Q (.int kvs.length) H
theorem call_lenDR : CallR X (.builtin "len") (rLenD X.K) := by
  intro pins s σ H xs us Q I r h
  obtain ⟨a, kvs, rfl, ha, q⟩ := h
  obtain ⟨u, rfl, ru⟩ := vals1 r
  cases ru
  exact d_len I ha fun t s' I' => ⟨.int kvs.length, H, I', ⟨t, rfl⟩, q⟩
def rLenX (K : PySem.W.Frag) : List V → Hp → VK → Prop := fun xs H Q => (fun xs H Q => ∃ p ys, xs = [V.ref p] ∧ (SqL K H p ys ∨ SqT K H p ys) ∧ Q (.int ys.length) H) xs H Q ∨ (fun xs H Q => (fun xs H Q => ∃ z, xs = [V.str z] ∧ z.length ≤ sizeLine ∧ Q (.int z.length) H) xs H Q ∨ rLenD K xs H Q) xs H Q
theorem call_lenX : CallR X (.builtin "len") (rLenX X.K) := CallR.or call_len_seq (CallR.or call_len_str call_lenDR)
theorem bls_len : BlS K (rLenX K) fLen := fun E F al H σ s ws ps va rel rr e Q hQ => by
  unfold fLen at e
  split at e
  · cases e
    obtain ⟨w, rfl, r⟩ := rr.one
    obtain ⟨a, vs, rfl, h1, l, _⟩ := r.lst rel.sub
    refine .inl ⟨a, vs, rfl, .inl (.of h1), ?_⟩
    rw [← l.length]
    exact fin_d rel (.int _) hQ
  · cases e
    obtain ⟨w, rfl, r⟩ := rr.one
    obtain ⟨a, vs, rfl, h1, l, _⟩ := r.tup rel.sub
    refine .inl ⟨a, vs, rfl, .inr (.of h1), ?_⟩
    rw [← l.length]
    exact fin_d rel (.int _) hQ
  · cases e
    obtain ⟨w, rfl, r⟩ := rr.one
    obtain ⟨a, vs, rfl, h1, l, _⟩ := r.lz rel.sub
    refine .inl ⟨a, vs, rfl, .inl h1, ?_⟩
    rw [← l.length]
    exact fin_d rel (.int _) hQ
  · cases e
    obtain ⟨w, rfl, r⟩ := rr.one
    obtain ⟨a, vs, rfl, h1, l, _⟩ := r.tz rel.sub
    refine .inl ⟨a, vs, rfl, .inr h1, ?_⟩
    rw [← l.length]
    exact fin_d rel (.int _) hQ
  · split at e
    · rename_i hz
      cases e
      obtain ⟨w, rfl, r⟩ := rr.one
      cases r.str
      exact .inr (.inl ⟨_, rfl, hz, fin_d rel (.int _) hQ⟩)
    · cases e
  · cases e
    obtain ⟨w, rfl, r⟩ := rr.one
    obtain ⟨a, vs, rfl, h1, l⟩ := r.dk rel.sub
    refine .inr (.inr ⟨a, vs, rfl, h1, ?_⟩)
    rw [← l.length0]
    exact fin_d rel (.int _) hQ
  · cases e
theorem se_len {x p pos} {e : Expr} {th : TA} {m : M (List Va)} (hm : X.mg "len" = none) (ha : SV X K W [e] th m) (hx : x = ("len" : Str) := by rfl) (hg : Gl X "len" := by rfl)
    (he : starEach [e] X.env = [(false, eval e X.env)] := by rfl) : SE X K W (.Call (.Name x p) [e] [] pos) (tCB (rLenX K) th) (evBl fLen m) := by
  subst hx
  obtain ⟨rfl, _⟩ := id ha
  exact se_blt call_lenX bls_len PySem.boot_len hm ha hg (by decide) (by decide) he rfl
/-! ### max, min, int -/
def fMax2 : List D → Option Va
  | [.int i, .int j] => some (.im (.int (if j > i then j else i)))
  | _ => none
def fMin2 : List D → Option Va
  | [.int i, .int j] => some (.im (.int (if j < i then j else i)))
  | _ => none
def fInt : List D → Option Va
  | [.int i] => some (.im (.int i))
  | [.bl b] => some (.im (.int (if b then 1 else 0)))
  | _ => none
abbrev rMax2 : List V → Hp → VK → Prop := fun xs H Q => ∃ i j, xs = [V.int i, .int j] ∧ Q (.int (if j > i then j else i)) H
abbrev rMin2 : List V → Hp → VK → Prop := fun xs H Q => ∃ i j, xs = [V.int i, .int j] ∧ Q (.int (if j < i then j else i)) H
abbrev rInt1 : List V → Hp → VK → Prop := fun xs H Q => (∃ i, xs = [V.int i] ∧ Q (.int i) H) ∨ ∃ k, xs = [.bl k] ∧ Q (.int (if k then 1 else 0)) H
theorem bls_max : BlS K rMax2 fMax2 := fun E F al H σ s ws ps va rel rr e Q hQ => by
  unfold fMax2 at e
  split at e
  · cases e
    obtain ⟨w, u, rfl, r, q⟩ := rr.two
    cases r.int; cases q.int
    exact ⟨_, _, rfl, fin_d rel (.int _) hQ⟩
  · cases e
theorem bls_min : BlS K rMin2 fMin2 := fun E F al H σ s ws ps va rel rr e Q hQ => by
  unfold fMin2 at e
  split at e
  · cases e
    obtain ⟨w, u, rfl, r, q⟩ := rr.two
    cases r.int; cases q.int
    exact ⟨_, _, rfl, fin_d rel (.int _) hQ⟩
  · cases e
theorem bls_int : BlS K rInt1 fInt := fun E F al H σ s ws ps va rel rr e Q hQ => by
  unfold fInt at e
  split at e
  · cases e
    obtain ⟨w, rfl, r⟩ := rr.one
    cases r.int
    exact .inl ⟨_, rfl, fin_d rel (.int _) hQ⟩
  · cases e
    obtain ⟨w, rfl, r⟩ := rr.one
    cases r.bl
    exact .inr ⟨_, rfl, fin_d rel (.int _) hQ⟩
  · cases e
theorem se_max {x p pos} {a b : Expr} {th : TA} {m : M (List Va)} (hm : X.mg "max" = none) (ha : SV X K W [a, b] th m) (hc : X.calm = true := by rfl) (hx : x = ("max" : Str) := by rfl) (hg : Gl X "max" := by rfl)
    (he : starEach [a, b] X.env = (false, eval a X.env) :: starEach [b] X.env := by rfl) (hpl : (backTo pos (starEach [b] X.env)).any (·.1) = false := by rfl) : SE X K W (.Call (.Name x p) [a, b] [] pos) (tCB rMax2 th) (evBl fMax2 m) := by
  subst hx
  exact se_blt (call_max2 hc) bls_max PyProof.Rows.boot_max hm ha hg (by decide) (by decide) he hpl
theorem se_min {x p pos} {a b : Expr} {th : TA} {m : M (List Va)} (hm : X.mg "min" = none) (ha : SV X K W [a, b] th m) (hc : X.calm = true := by rfl) (hx : x = ("min" : Str) := by rfl) (hg : Gl X "min" := by rfl)
    (he : starEach [a, b] X.env = (false, eval a X.env) :: starEach [b] X.env := by rfl) (hpl : (backTo pos (starEach [b] X.env)).any (·.1) = false := by rfl) : SE X K W (.Call (.Name x p) [a, b] [] pos) (tCB rMin2 th) (evBl fMin2 m) := by
  subst hx
  exact se_blt (call_min2 hc) bls_min PyProof.Rows.boot_min hm ha hg (by decide) (by decide) he hpl
theorem se_int1 {x p pos} {a : Expr} {th : TA} {m : M (List Va)} (hm : X.mg "int" = none) (ha : SV X K W [a] th m) (hx : x = ("int" : Str) := by rfl) (hg : Gl X "int" := by rfl)
    (he : starEach [a] X.env = [(false, eval a X.env)] := by rfl) : SE X K W (.Call (.Name x p) [a] [] pos) (tCB rInt1 th) (evBl fInt m) := by
  subst hx
  exact se_ty call_int1 bls_int PyProof.Rows.boot_int hm ha hg (by decide) (by decide) he rfl
/-! ### isinstance -/
def tyN : D → Option String
  | .non => some "NoneType"
  | .bl _ => some "bool"
  | .int _ => some "int"
  | .str _ => some "str"
  | .lst _ => some "list"
  | .lz _ => some "list"
  | .tup _ => some "tuple"
  | .tz _ => some "tuple"
  | .dk _ => some "dict"
  | _ => none
def isB (a b : String) : Option Bool :=
  if a = b then some true else if a = "bool" ∧ b = "int" then some true else if b = "int" ∨ b = "str" ∨ b = "list" ∨ b = "tuple" ∨ b = "dict" ∨ b = "bool" then some false else none
def fIsi : List D → Option Va
  | [p, .ty c] => (match tyN p with
    | some t => (isB t c).map fun b => .im (.bl b)
    | none => none)
  | _ => none
theorem isB_kit (a : String) (ha : a = "NoneType" ∨ a = "bool" ∨ a = "int" ∨ a = "str" ∨ a = "list" ∨ a = "tuple" ∨ a = "dict") {b : String} {r : Bool} (h : isB a b = some r) : kitB a b = some r := by
  unfold isB at h
  split at h
  · rename_i e
    cases h; subst e
    unfold kitB
    rw [if_pos (by simp)]
  · split at h
    · rename_i e
      cases h
      obtain ⟨rfl, rfl⟩ := e
      decide +kernel
    · split at h
      · rename_i hne h2 h3
        cases h
        rcases h3 with rfl | rfl | rfl | rfl | rfl | rfl <;> rcases ha with rfl | rfl | rfl | rfl | rfl | rfl | rfl <;> first | (exact absurd rfl hne) | (exact absurd ⟨rfl, rfl⟩ h2) | decide +kernel
      · cases h
theorem tyN_ok {al : List Addr} {F H : Hp} {p : D} {w : V} {t : String} (hs : Sub F H) (r : Rdr K al F H p w) (h : tyN p = some t) : TyX K H w (.type t) ∧ (t = "NoneType" ∨ t = "bool" ∨ t = "int" ∨ t = "str" ∨ t = "list" ∨ t = "tuple" ∨ t = "dict") := by
  unfold tyN at h
  split at h
  · cases h; cases r.non; exact ⟨.base .non, by simp⟩
  · cases h; cases r.bl; exact ⟨.base (.bl _), by simp⟩
  · cases h; cases r.int; exact ⟨.base (.int _), by simp⟩
  · cases h; cases r.str; exact ⟨.base (.str _), by simp⟩
  · cases h
    obtain ⟨a, vs, rfl, h1, _⟩ := r.lst hs
    exact ⟨.base (.lst h1), by simp⟩
  · cases h
    obtain ⟨a, vs, rfl, h1, _⟩ := r.lz hs
    rcases h1 with (h1 | ⟨o, h1⟩) | ⟨o, its, n, e, hc, _⟩
    · exact ⟨.base (.lst h1), by simp⟩
    · exact ⟨.base (.frz h1), by simp⟩
    · exact ⟨.kList e hc, by simp⟩
  · cases h
    obtain ⟨a, vs, rfl, h1, _⟩ := r.tup hs
    exact ⟨.base (.tup h1), by simp⟩
  · cases h
    obtain ⟨a, vs, rfl, h1, _⟩ := r.tz hs
    rcases h1 with (h1 | ⟨o, h1⟩) | ⟨o, its, n, e, hc, _⟩
    · exact ⟨.base (.tup h1), by simp⟩
    · exact ⟨.fTuple h1, by simp⟩
    · exact ⟨.kTuple e hc, by simp⟩
  · cases h
    obtain ⟨a, vs, rfl, h1, _⟩ := r.dk hs
    rcases h1 with h1 | ⟨o, h1⟩
    · exact ⟨.base (.dK h1), by simp⟩
    · exact ⟨.fDict h1, by simp⟩
  · cases h
theorem bls_isi : BlS K (rIsi K) fIsi := fun E F al H σ s ws ps va rel rr e Q hQ => by
  unfold fIsi at e
  split at e
  · rename_i p c
    split at e
    · rename_i t ht
      cases hb : isB t c with
      | none => rw [hb] at e; cases e
      | some b =>
        rw [hb] at e
        cases e
        obtain ⟨w, u, rfl, r, q⟩ := rr.two
        rcases q with ⟨q, _⟩ | ⟨a, ho, o, e, h1, h2, h3⟩
        · cases q
          obtain ⟨ty, hm⟩ := tyN_ok rel.sub r ht
          exact ⟨w, _, _, _, b, rfl, .ty c, ty, kit_ty (isB_kit t hm hb), fin_d rel (.bl b) hQ⟩
        · cases o <;> cases h3
    · cases e
  · cases e
theorem se_isi {x p pos} {a b : Expr} {th : TA} {m : M (List Va)} (hm : X.mg "isinstance" = none) (ha : SV X K W [a, b] th m) (hx : x = ("isinstance" : Str) := by rfl) (hg : Gl X "isinstance" := by rfl)
    (he : starEach [a, b] X.env = (false, eval a X.env) :: starEach [b] X.env := by rfl) (hpl : (backTo pos (starEach [b] X.env)).any (·.1) = false := by rfl) : SE X K W (.Call (.Name x p) [a, b] [] pos) (tCB (rIsi K) th) (evBl fIsi m) := by
  subst hx
  obtain ⟨rfl, _⟩ := id ha
  exact se_blt call_isi bls_isi PyProof.Rows.boot_isinstance hm ha hg (by decide) (by decide) he hpl
end
end VI
end
section
set_option Elab.async false
set_option linter.all false
set_option maxRecDepth 100000
set_option maxHeartbeats 2000000
/-! V14: containers that are changed: stores, methods; methods of texts. -/
namespace VI
open PySem PySem.Spec L2

/-- the content of a container that a slot owns or a cell holds -/
def obV (v : Va) (s : S) : Option Ob := match v with
  | .pl i => (match s.env[i]? with
    | some (.ow _ o) => some o
    | _ => none)
  | .im (.ref j) => s.st[j]?
  | _ => none
def putV (v : Va) (o : Ob) (s : S) : S := match v with
  | .pl i => (match s.env[i]? with
    | some (.ow p _) => { s with env := s.env.set i (.ow p o) }
    | _ => s)
  | .im (.ref j) => { s with st := s.st.set j o }
  | _ => s
section
variable {X : Cx} {W : Wx} {K : PySem.W.Frag}
theorem Rel.putV {E : Ent} {Hs F H : Hp} {al : List Addr} {σ : L2.St} {s : S} {w : V} {va : Va} {o : Ob} (rel : Rel K E F al H σ s) (v : VaR K E Hs al F H σ s w va) (h : obV va s = some o) :
    ∃ a ho, w = .ref a ∧ H a = some ho ∧ ObR K al F o ho ∧ ∀ (o' : Ob) (ho' : HO), ObR K al F o' ho' → Rel K E F al (upd H a ho') σ (VI.putV va o' s) ∧ Stp σ s (VI.putV va o' s) F al H F al (upd H a ho') := by
  cases va with
  | fr o => cases h
  | im d =>
    cases d with
    | ref j =>
      have h : s.st[j]? = some o := h
      cases (show Dat K al F (.ref j) w from v) with
      | ref g =>
        rename_i a
        obtain ⟨hF, ho, h1, h2⟩ := rel.cell j a o g h
        refine ⟨a, ho, rfl, h1, h2, fun o' ho' q => ?_⟩
        have hj : j < s.st.length := (List.getElem?_eq_some_iff.mp h).1
        refine ⟨⟨rel.sub.put hF, by show al.length = (s.st.set j o').length; rw [List.length_set]; exact rel.clen, fun i b u g1 g2 => ?_, rel.nd, rel.elen, fun i sl x g1 g2 => ?_, rel.own, rel.ent.trans (Ext.put (T := fun x => x = a) (Z := fun _ => False) rfl) (fun x z => by
          have z : x = a := z
          subst z
          obtain ⟨l, e, n⟩ := rel.ent.al
          have m : x ∈ al := List.mem_of_getElem? g
          rw [e] at m
          rcases List.mem_append.mp m with m | m
          · exact .inl (.inl m)
          · exact .inr (n x m)) (fun _ z => z.elim), rel.onew⟩, .put (.inl (List.mem_of_getElem? g)), .refl _⟩
        · rcases set_get g2 with ⟨e, e2, _⟩ | ⟨e, g2⟩
          · subst e e2
            rw [g] at g1; cases g1
            exact ⟨hF, ho', upd_same, q⟩
          · obtain ⟨c1, hb, c2, c3⟩ := rel.cell i b u g1 g2
            have ne : b ≠ a := fun z => by
              subst z
              have hi := (List.getElem?_eq_some_iff.mp g1).1
              exact e ((List.getElem?_inj hi rel.nd).mp (by rw [g, g1])).symm
            exact ⟨c1, hb, by rw [upd_ne ne]; exact c2, c3⟩
        · have q2 := rel.env i sl x g1 g2
          cases sl with
          | un => exact True.intro
          | im d => exact q2
          | ow p u =>
            obtain ⟨b, hb, e, c1, c2, c3, c4⟩ := q2
            have ne : b ≠ a := fun z => by
              subst z; exact c2 (List.mem_of_getElem? g)
            exact ⟨b, hb, e, c1, c2, by rw [upd_ne ne]; exact c3, c4⟩
    | _ => cases h
  | pl i =>
    obtain ⟨hw, sl, hs, hn⟩ := v
    have h : (match s.env[i]? with
      | some (.ow _ o) => some o
      | _ => none) = some o := h
    rw [hs] at h
    cases sl with
    | un => cases h
    | im d => cases h
    | ow p u =>
      cases h
      obtain ⟨a, ho, e, c1, c2, c3, c4⟩ := rel.env i _ _ hs hw
      cases e
      refine ⟨a, ho, rfl, c3, c4, fun o' ho' q => ?_⟩
      have es : VI.putV (.pl i) o' s = { s with env := s.env.set i (.ow p o') } := by
        show (match s.env[i]? with
          | some (.ow p _) => { s with env := s.env.set i (.ow p o') }
          | _ => s) = _
        rw [hs]
      rw [es]
      have hi : i < s.env.length := (List.getElem?_eq_some_iff.mp hs).1
      have back : ∀ {j : Nat} {p' : Bool} {u' : Ob}, (s.env.set i (.ow p o'))[j]? = some (.ow p' u') → ∃ u2, s.env[j]? = some (.ow p' u2) := fun {j p' u'} g => by
        rcases set_get g with ⟨e, e2, _⟩ | ⟨_, g⟩
        · cases e2; subst e; exact ⟨_, hs⟩
        · exact ⟨_, g⟩
      refine ⟨⟨rel.sub.put c1, rel.clen, fun j b u2 g1 g2 => ?_, rel.nd, by show (s.env.set i _).length = _; rw [List.length_set]; exact rel.elen, fun j sl x g1 g2 => ?_, fun j k p1 p2 u1 u2 b g1 g2 g3 g4 => ?_, rel.ent.trans (Ext.put (T := fun x => x = a) (Z := fun _ => False) rfl) (fun x z => ?_) (fun _ z => z.elim), fun j p1 u1 b g1 g2 => ?_⟩, .put (.inr ⟨i, p, _, hs, hw⟩), by show (s.env.set i _).length = _; rw [List.length_set], fun j sl sl' g1 g2 => ?_⟩
      · obtain ⟨d1, hb, d2, d3⟩ := rel.cell j b u2 g1 g2
        have ne : b ≠ a := fun z => by
          subst z; exact c2 (List.mem_of_getElem? g1)
        exact ⟨d1, hb, by rw [upd_ne ne]; exact d2, d3⟩
      · rcases set_get g1 with ⟨e, e2, _⟩ | ⟨e, g1⟩
        · subst e e2
          rw [hw] at g2; cases g2
          exact ⟨a, ho', rfl, c1, c2, upd_same, q⟩
        · have q2 := rel.env j sl x g1 g2
          cases sl with
          | un => exact True.intro
          | im d => exact q2
          | ow p1 u1 =>
            obtain ⟨b, hb, e3, d1, d2, d3, d4⟩ := q2
            subst e3
            have ne : b ≠ a := fun z => e (rel.own i j _ _ _ _ a hs g1 hw (z ▸ g2))
            exact ⟨b, hb, rfl, d1, d2, by rw [upd_ne ne]; exact d3, d4⟩
      · obtain ⟨_, g1⟩ := back g1
        obtain ⟨_, g2⟩ := back g2
        exact rel.own j k _ _ _ _ b g1 g2 g3 g4
      · have z : x = a := z
        subst z
        have q3 := rel.onew i p _ x hs hw
        cases p with
        | true => exact .inl (.inr (by simpa using q3))
        | false => exact .inr (by simpa using q3)
      · obtain ⟨_, g1⟩ := back g1
        exact rel.onew j p1 _ b g1 g2
      · rcases set_get g2 with ⟨e, e2, _⟩ | ⟨e, g2⟩
        · subst e e2
          rw [hs] at g1; cases g1
          exact .inl ⟨_, rfl⟩
        · rw [g1] at g2; cases g2; exact SlS.refl _

/-! ### o[i] = v -/
def putE {κ : Type} [DecidableEq κ] (kvs : List (κ × D)) (k : κ) (v : D) : List (κ × D) :=
  if (kvs.any fun kv => decide (kv.1 = k)) = true then kvs.map (fun kv => if kv.1 = k then (kv.1, v) else kv) else kvs ++ [(k, v)]
theorem DatK.any {al : List Addr} {F : Hp} {ds : List (Key × D)} {vs : List (Key × V)} (h : DatK K al F ds vs) (f : Key → Bool) : (ds.any fun kv => f kv.1) = vs.any fun kv => f kv.1 := by
  induction ds generalizing vs with
  | nil => cases h; rfl
  | cons a ds ih => cases h with
    | cons q t => simp only [List.any_cons, ih t]
theorem DatT.any {al : List Addr} {F : Hp} {ds : List (List Key × D)} {vs : List (List Key × V)} (h : DatT K al F ds vs) (f : List Key → Bool) : (ds.any fun kv => f kv.1) = vs.any fun kv => f kv.1 := by
  induction ds generalizing vs with
  | nil => cases h; rfl
  | cons a ds ih => cases h with
    | cons q t => simp only [List.any_cons, ih t]
theorem DatK.app {al : List Addr} {F : Hp} {ds es : List (Key × D)} {vs us : List (Key × V)} (h : DatK K al F ds vs) (g : DatK K al F es us) : DatK K al F (ds ++ es) (vs ++ us) := by
  induction ds generalizing vs with
  | nil => cases h; exact g
  | cons a ds ih => cases h with
    | cons q t => exact .cons q (ih t)
theorem DatT.app {al : List Addr} {F : Hp} {ds es : List (List Key × D)} {vs us : List (List Key × V)} (h : DatT K al F ds vs) (g : DatT K al F es us) : DatT K al F (ds ++ es) (vs ++ us) := by
  induction ds generalizing vs with
  | nil => cases h; exact g
  | cons a ds ih => cases h with
    | cons q t => exact .cons q (ih t)
theorem DatK.over {al : List Addr} {F : Hp} {ds : List (Key × D)} {vs : List (Key × V)} (h : DatK K al F ds vs) (k : Key) {d : D} {v : V} (e : Dat K al F d v) : DatK K al F (ds.map fun kv => if kv.1 = k then (kv.1, d) else kv) (vs.map fun kv => if kv.1 = k then (kv.1, v) else kv) := by
  induction ds generalizing vs with
  | nil => cases h; exact .nil
  | cons a ds ih => cases h with
    | cons q t =>
      rename_i k' d' v' vs'
      simp only [List.map_cons]
      by_cases hk : k' = k
      · rw [if_pos hk, if_pos hk]; exact .cons e (ih t)
      · rw [if_neg hk, if_neg hk]; exact .cons q (ih t)
theorem DatT.over {al : List Addr} {F : Hp} {ds : List (List Key × D)} {vs : List (List Key × V)} (h : DatT K al F ds vs) (k : List Key) {d : D} {v : V} (e : Dat K al F d v) : DatT K al F (ds.map fun kv => if kv.1 = k then (kv.1, d) else kv) (vs.map fun kv => if kv.1 = k then (kv.1, v) else kv) := by
  induction ds generalizing vs with
  | nil => cases h; exact .nil
  | cons a ds ih => cases h with
    | cons q t =>
      rename_i k' d' v' vs'
      simp only [List.map_cons]
      by_cases hk : k' = k
      · rw [if_pos hk, if_pos hk]; exact .cons e (ih t)
      · rw [if_neg hk, if_neg hk]; exact .cons q (ih t)
theorem DatK.put {al : List Addr} {F : Hp} {ds : List (Key × D)} {vs : List (Key × V)} (h : DatK K al F ds vs) (k : Key) {d : D} {v : V} (e : Dat K al F d v) : DatK K al F (putE ds k d) (putK vs k v) := by
  unfold putE putK
  rw [h.any fun x => decide (x = k)]
  split
  · exact h.over k e
  · exact h.app (.cons e .nil)
theorem DatT.put {al : List Addr} {F : Hp} {ds : List (List Key × D)} {vs : List (List Key × V)} (h : DatT K al F ds vs) (k : List Key) {d : D} {v : V} (e : Dat K al F d v) : DatT K al F (putE ds k d) (putK vs k v) := by
  unfold putE putK
  rw [h.any fun x => decide (x = k)]
  split
  · exact h.over k e
  · exact h.app (.cons e .nil)
theorem DatK.length {al : List Addr} {F : Hp} {ds : List (Key × D)} {vs : List (Key × V)} (h : DatK K al F ds vs) : ds.length = vs.length := by
  induction ds generalizing vs with
  | nil => cases h; rfl
  | cons a ds ih => cases h with
    | cons q t => simp only [List.length_cons, ih t]
theorem DatT.length {al : List Addr} {F : Hp} {ds : List (List Key × D)} {vs : List (List Key × V)} (h : DatT K al F ds vs) : ds.length = vs.length := by
  induction ds generalizing vs with
  | nil => cases h; rfl
  | cons a ds ih => cases h with
    | cons q t => simp only [List.length_cons, ih t]
def fStore : Ob → D → D → Option Ob
  | .lst xs, .int i, v => (ixN xs.length i).map fun j => .lst (xs.set j v)
  | .dk kvs, p, v => (match p.key with
    | some k => if kvs.length < sizeLine then some (.dk (putE kvs k v)) else none
    | none => none)
  | .dt kvs, .tup ps, v => (match keysOf ps with
    | some k => if kvs.length < sizeLine then some (.dt (putE kvs k v)) else none
    | none => none)
  | _, _, _ => none
/-- value, object, index -/
def svStore (ev eo ei : M Va) : Sx := svLet ((ev >>= esc) >>= fun d => eo >>= fun o => ei >>= fun i => pure (d, o, i)) fun r s => match obV r.2.1 s, rd r.2.2 s with
  | some ob, some p => (match fStore ob p r.1 with
    | some ob' => .nx (putV r.2.1 ob' s)
    | none => .no)
  | _, _ => .no
def tSetX : TSet := fun o i v H Q => rSetL o i v H Q ∨ rSetD o i v H Q
theorem set_x (hu : X.A.units + 1 < cLine) : PSet X tSetX := fun pins s σ H o i v ov iv u Q I ro ri rv h => h.elim (set_list pins s σ H o i v ov iv u Q I ro ri rv) (set_dict hu pins s σ H o i v ov iv u Q I ro ri rv)
theorem store_ok {al : List Addr} {F H : Hp} {o o' : Ob} {ho : HO} {p d : D} {a : Addr} {x v : V} (hs : Sub F H) (hH : H a = some ho) (q : ObR K al F o ho) (rp : Rdr K al F H p x) (dv : Dat K al F d v) (h : fStore o p d = some o') (Q : Hp → Prop) (hQ : ∀ ho', ObR K al F o' ho' → Q (upd H a ho')) : tSetX (.ref a) x v H Q := by
  unfold fStore at h
  split at h
  · rename_i xs i
    cases hj : ixN xs.length i with
    | none => rw [hj] at h; cases h
    | some j =>
      rw [hj] at h
      cases h
      cases ho <;> first | exact q.elim | skip
      rename_i vs
      have q : DatL K al F xs vs ∧ xs.length ≤ sizeLine := q
      cases rp.int
      refine .inl ⟨a, vs, i, j, rfl, rfl, hH, by rw [← q.1.length]; exact hj, hQ _ ⟨q.1.set dv, by rw [List.length_set]; exact q.2⟩⟩
  · rename_i kvs
    split at h
    · rename_i k hk
      split at h
      · rename_i hz
        cases h
        cases ho <;> first | exact q.elim | skip
        rename_i vs
        have q : DatK K al F kvs vs := q
        exact .inr ⟨a, _, rfl, .inl ⟨vs, k, hH, key_ok hk rp, by rw [← q.length]; exact hz, rfl⟩, hQ _ (q.put k dv)⟩
      · cases h
    · cases h
  · rename_i kvs ps
    split at h
    · rename_i k hk
      split at h
      · rename_i hz
        cases h
        cases ho <;> first | exact q.elim | skip
        rename_i vs
        have q : DatT K al F kvs vs := q
        obtain ⟨b, us, rfl, h1, l, _⟩ := rp.tup hs
        have e3 := keysOf_ok (H := H) hk l
        rw [e3] at h1
        exact .inr ⟨a, _, rfl, .inr ⟨vs, k, b, hH, rfl, h1, by rw [← q.length]; exact hz, rfl⟩, hQ _ (q.put k dv)⟩
      · cases h
    · cases h
  · cases h
theorem ss_store {o i e : Expr} {te to ti : TE} {ev eo ei : M Va} {pos pos' : Pos} (hu : X.A.units + 1 < cLine) (he : SE X K W e te ev) (ho : SE X K W o to eo) (hi : SE X K W i ti ei) (hs : swapsWithSole [.Subscript o i pos'] e pos.line X.env = pure false := by rfl) (hw : swappedStores [.Subscript o i pos'] e X.env = pure none := by rfl)
    (h1 : (assignEach [.Subscript o i pos'] X.env).map (·.2) = [assign (.Subscript o i pos') X.env] := by rfl)
    (ha : ∀ v, assign (.Subscript o i pos') X.env v = (do
      let ov ← holding [v] (eval o X.env)
      let iv ← holding [v, ov] (eval i X.env)
      standAt pos'
      holding [v, ov, iv] (setItem ov iv v)
      release [v, ov, iv] []) := by intro _; rfl) : SS X K W (.Assign [.Subscript o i pos'] e pos) (tAsg te (gSub to ti tSetX)) (svStore ev eo ei) := by
  obtain ⟨hK, pe, ge⟩ := he
  obtain ⟨_, po, go⟩ := ho
  obtain ⟨_, pi, gi⟩ := hi
  refine ⟨hK, ps_asg pe (pg_sub po pi (set_x hu) ha) hs hw h1, fun E F al H σ s En rel w => ?_⟩
  -- value, object, index, one behind another
  have q := Sat.bind2 (W := W) (R' := fun Hs al F H s (r : V × V × V) (x : D × Va × Va) => Dat K al F x.1 r.1 ∧ VaR K E (fun _ => none) al F H σ s r.2.1 x.2.1 ∧ VaR K E (fun _ => none) al F H σ s r.2.2 x.2.2) (u := fun v H1 (Q : V × V × V → Hp → Prop) => to σ H1 fun o H2 => ti σ H2 fun i H3 => Q (v, o, i) H3) (f := fun d => eo >>= fun o => ei >>= fun i => (pure (d, o, i) : M (D × Va × Va))) ((ge E F al H σ s rel).esc) fun d s1 wv F1 al1 H1 _ rel1 st1 dv => ?_
  · refine Sat.want (k := fun r s => match obV r.2.1 s, rd r.2.2 s with
      | some ob, some p => (match fStore ob p r.1 with
        | some ob' => .nx (VI.putV r.2.1 ob' s)
        | none => .no)
      | _, _ => .no) (u := fun r H3 => tSetX r.2.1 r.2.2 r.1 H3 fun H4 => En.nx σ H4) q w (fun r s1 ws F1 al1 H1 hm r1 gr hr w1 => ?_) fun _ _ _ _ _ h => h
    obtain ⟨d, o, i⟩ := r
    obtain ⟨wv, wo, wi⟩ := ws
    obtain ⟨dv, vo, vi⟩ := hr
    dsimp only at w1 dv vo vi ⊢
    cases hob : obV o s1 with
    | none => rw [hob] at w1; exact w1.elim
    | some ob =>
      cases hp : rd i s1 with
      | none => rw [hob, hp] at w1; exact w1.elim
      | some p =>
        rw [hob, hp] at w1
        dsimp only at w1
        cases hf : fStore ob p d with
        | none => rw [hf] at w1; exact w1.elim
        | some ob' =>
          rw [hf] at w1
          obtain ⟨a, ho, e, h1, h2, h3⟩ := r1.putV vo hob
          subst e
          refine store_ok r1.sub h1 h2 (rd_ok r1 vi hp) dv hf _ fun ho' q' => ?_
          obtain ⟨r2, s2⟩ := h3 ob' ho' q'
          exact w1 F1 al1 _ σ r2 s2.gr
  · have q2 := go E F1 al1 H1 σ s1 rel1
    rw [M.bind_run]
    cases ho : eo s1 with
    | no => exact True.intro
    | ex x s2 => rw [ho] at q2; exact fun Q hQ => q2 _ fun cls d F2 al2 H2 rel2 st2 x2 => hQ cls d F2 al2 H2 rel2 (st1.trans st2) x2
    | ok vo s2 =>
      rw [ho] at q2
      show Sat _ _ _ _ _ _ _ _ _ _ ((ei >>= fun i => (pure (d, vo, i) : M (D × Va × Va))) s2)
      rw [M.bind_run]
      cases hi2 : ei s2 with
      | no => exact True.intro
      | ex x s3 =>
        refine fun Q hQ => q2 _ fun wo F2 al2 H2 rel2 st2 v2 => ?_
        have q3 := gi E F2 al2 H2 σ s2 rel2
        rw [hi2] at q3
        exact q3 _ fun cls d F3 al3 H3 rel3 st3 x3 => hQ cls d F3 al3 H3 rel3 ((st1.trans st2).trans st3) x3
      | ok vi s3 =>
        refine fun Q hQ => q2 _ fun wo F2 al2 H2 rel2 st2 v2 => ?_
        have q3 := gi E F2 al2 H2 σ s2 rel2
        rw [hi2] at q3
        exact q3 _ fun wi F3 al3 H3 rel3 st3 v3 => hQ (wv, wo, wi) F3 al3 H3 rel3 ((st1.trans st2).trans st3) ⟨dv.mono (st2.trans st3).gr, VR.low (fun _ => none) _ _ _ _ _ _ _ (fun _ h => absurd rfl h) (v2.mono st3), VR.low (fun _ => none) _ _ _ _ _ _ _ (fun _ h => absurd rfl h) v3⟩

/-! ### methods that change -/
def MutS (K : PySem.W.Frag) (r : V → List V → Hp → VK → Prop) (f : Ob → List D → Option (Ob × D)) : Prop := ∀ (al : List Addr) (F H : Hp) (o o' : Ob) (ho : HO) (a : Addr) (ps : List D) (vs : List V) (x : D) (Q : VK), Sub F H → H a = some ho → ObR K al F o ho → DatL K al F ps vs → f o ps = some (o', x) →
  (∀ ho' w, ObR K al F o' ho' → Dat K al F x w → Q w (upd H a ho')) → r (.ref a) vs H Q
def evMut (isT : Ob → Bool) (f : Ob → List D → Option (Ob × D)) (m : M Va) (args : M (List D)) : M Va := m >>= fun v s0 => match obV v s0 with
  | some o0 => if isT o0 = true then (args >>= fun ds s => match obV v s with
    | some o => (match f o ds with
      | some (o', x) => .ok (.im x) (putV v o' s)
      | none => .no)
    | none => .no) s0 else .no
  | none => .no
theorem good_mut {T : String} {isT : Ob → Bool} {r : V → List V → Hp → VK → Prop} {f : Ob → List D → Option (Ob × D)} {to : TE} {ta : TA} {m : M Va} {args : M (List D)} (hT : ∀ (al : List Addr) (F H : Hp) (o : Ob) (ho : HO) (a : Addr), isT o = true → H a = some ho → ObR K al F o ho → tyV K T (.ref a) H) (hs : MutS K r f) (go : GoodE K W to m) (ga : GoodA K W ta args) : GoodE K W (tBM K T r to ta) (evMut isT f m args) := fun E F al H σ s rel => by
  refine Sat.bind (u := fun x H1 Q => tyV K T x H1 ∧ ta σ H1 fun xs H2 => r x xs H2 Q) VR.low (go E F al H σ s rel) fun va s1 w1 F1 al1 H1 _ rel1 st1 v1 => ?_
  cases ho : obV va s1 with
  | none => simp only [ho]; exact True.intro
  | some o0 =>
    simp only [ho]
    by_cases hi : isT o0 = true
    · rw [if_pos hi]
      obtain ⟨a, ho0, e, h1, h2, _⟩ := rel1.putV v1 ho
      subst e
      have ty : tyV K T (.ref a) H1 := hT al1 F1 H1 o0 ho0 a hi h1 h2
      have q := Sat.bind (u := fun xs H2 Q => r (.ref a) xs H2 Q) (VR.low (K := K) (E := E) (σ := σ)) (ga E F1 al1 H1 σ s1 rel1) (f := fun ds s => match obV va s with
        | some o => (match f o ds with
          | some (o', x) => .ok (.im x) (VI.putV va o' s)
          | none => .no)
        | none => .no) fun ds s2 ws F2 al2 H2 _ rel2 st2 v2 => ?_
      · exact q.imp fun Q h => ⟨ty, h⟩
      · cases ho2 : obV va s2 with
        | none => exact True.intro
        | some o =>
          dsimp only
          cases hf : f o ds with
          | none => exact True.intro
          | some z =>
            obtain ⟨o', x⟩ := z
            obtain ⟨b, ho2', e, g1, g2, g3⟩ := rel2.putV (v1.mono st2) ho2
            cases e
            refine fun Q hQ => hs al2 F2 H2 o o' ho2' a ds ws x Q rel2.sub g1 g2 v2 hf fun ho' w q' dx => ?_
            obtain ⟨r3, s3⟩ := g3 o' ho' q'
            exact hQ w F2 al2 _ r3 s3 dx
    · rw [if_neg hi]; exact True.intro
def isLst : Ob → Bool
  | .lst _ => true
  | _ => false
def isDk : Ob → Bool
  | .dk _ => true
  | .dt _ => true
  | _ => false
theorem ty_lst (al : List Addr) (F H : Hp) (o : Ob) (ho : HO) (a : Addr) (h : isLst o = true) (e : H a = some ho) (q : ObR K al F o ho) : tyV K "list" (.ref a) H := by
  cases o <;> first | cases h | skip
  cases ho <;> first | exact q.elim | skip
  exact .inl ⟨rfl, _, .of e⟩
def fAppend : Ob → List D → Option (Ob × D)
  | .lst xs, [y] => if xs.length < sizeLine then some (.lst (xs ++ [y]), .non) else none
  | _, _ => none
theorem mut_append : MutS K rAppend fAppend := fun al F H o o' ho a ps vs x Q hs hH q l h hQ => by
  unfold fAppend at h
  split at h
  · split at h
    · rename_i xs y hz
      cases h
      cases ho <;> first | exact q.elim | skip
      rename_i us
      have q : DatL K al F xs us ∧ xs.length ≤ sizeLine := q
      obtain _ | ⟨l1, l2⟩ := l
      cases l2
      exact ⟨a, us, _, rfl, rfl, hH, by rw [← q.1.length]; exact hz, hQ _ _ ⟨q.1.app (.cons l1 .nil), by rw [List.length_append]; exact hz⟩ .non⟩
    · cases h
  · cases h
theorem se_append {name : Str} {o e : Expr} {apos cpos : Pos} {to : TE} {ta : TA} {m : M Va} {args : M (List D)} (ho : SE X K W o to m) (ha : SA X K W [e] ta args) (hx : name = ("append" : Str) := by rfl)
    (hbase : attributeBase o "append" X.env (eval o X.env) = eval o X.env := by rfl)
    (hfew : ((backTo cpos (starEach [e] X.env)).all (fun x => !x.1) && (backToKw cpos (keywordEach [] X.env)).all (fun x => x.1.isSome)
      && decide ([e].length + ([] : List Keyword).length + (if ([] : List Keyword).isEmpty then 0 else 1) < 30)) = true := by rfl)
    (hline : (apos.endLine == cpos.line) = true := by rfl) (hs : starEach [e] X.env = [(false, eval e X.env)] := by rfl) : SE X K W (.Call (.Attribute o name apos) [e] [] cpos) (tBM K "list" rAppend to ta) (evMut isLst fAppend m args) := by
  subst hx
  obtain ⟨rfl, po, go⟩ := ho
  obtain ⟨_, pa, ga⟩ := ha
  exact ⟨rfl, pe_bm PySem.F.plainAttrs_list PySem.F.slot_list_append PySem.F.type_list_append mt_append po pa hbase hfew hline hs rfl, good_mut ty_lst mut_append go ga⟩

/-! ### methods of texts -/
def M0S (K : PySem.W.Frag) (r : V → List V → Hp → VK → Prop) (f : Str → Option Va) : Prop := ∀ (E : Ent) (F : Hp) (al : List Addr) (H : Hp) (σ : L2.St) (s : S) (a : Str) (va : Va), Rel K E F al H σ s → f a = some va →
  ∀ Q : VK, (∀ w F' al' H', Rel K E F' al' H' σ s → Stp σ s s F al H F' al' H' → VaR K E H al' F' H' σ s w va → Q w H') → r (.str a) [] H Q
def M1S (K : PySem.W.Frag) (r : V → List V → Hp → VK → Prop) (f : Str → D → Option Va) : Prop := ∀ (E : Ent) (F : Hp) (al : List Addr) (H : Hp) (σ : L2.St) (s : S) (a : Str) (y : V) (q : D) (va : Va), Rel K E F al H σ s → Rdr K al F H q y → f a q = some va →
  ∀ Q : VK, (∀ w F' al' H', Rel K E F' al' H' σ s → Stp σ s s F al H F' al' H' → VaR K E H al' F' H' σ s w va → Q w H') → r (.str a) [y] H Q
def ev0 (f : Str → Option Va) (m : M Va) : M Va := m >>= fun v s => match v with
  | .im (.str a) => (match f a with
    | some v => .ok v s
    | none => .no)
  | _ => .no
def ev1 (f : Str → D → Option Va) (m n : M Va) : M Va := m >>= fun v s => match v with
  | .im (.str a) => (n >>= fun y s => match rd y s with
    | some q => (match f a q with
      | some v => .ok v s
      | none => .no)
    | none => .no) s
  | _ => .no
theorem good_m0 {r : V → List V → Hp → VK → Prop} {f : Str → Option Va} {to : TE} {m : M Va} (hs : M0S K r f) (go : GoodE K W to m) : GoodE K W (tM0 r to) (ev0 f m) := fun E F al H σ s rel => by
  refine Sat.bind (u := fun x H1 Q => (∃ a, x = .str a) ∧ r x [] H1 Q) VR.low (go E F al H σ s rel) fun va s1 w1 F1 al1 H1 _ rel1 st1 v1 => ?_
  cases va with
  | im d =>
    cases d with
    | str a =>
      cases (show Dat K al1 F1 (.str a) w1 from v1)
      dsimp only
      cases hf : f a with
      | none => exact True.intro
      | some v => exact fun Q hQ => ⟨⟨a, rfl⟩, hs E F1 al1 H1 σ s1 a v rel1 hf Q hQ⟩
    | _ => exact True.intro
  | _ => exact True.intro
theorem good_m1 {r : V → List V → Hp → VK → Prop} {f : Str → D → Option Va} {to te : TE} {m n : M Va} (hs : M1S K r f) (go : GoodE K W to m) (ge : GoodE K W te n) : GoodE K W (tM1 r to te) (ev1 f m n) := fun E F al H σ s rel => by
  refine Sat.bind (u := fun x H1 Q => (∃ a, x = .str a) ∧ te σ H1 fun y H2 => r x [y] H2 Q) VR.low (go E F al H σ s rel) fun va s1 w1 F1 al1 H1 _ rel1 st1 v1 => ?_
  cases va with
  | im d =>
    cases d with
    | str a =>
      cases (show Dat K al1 F1 (.str a) w1 from v1)
      dsimp only
      have q := Sat.bind (u := fun y H2 Q => r (.str a) [y] H2 Q) (VR.low (K := K) (E := E) (σ := σ)) (ge E F1 al1 H1 σ s1 rel1) (f := fun y s => match rd y s with
        | some q => (match f a q with
          | some v => .ok v s
          | none => .no)
        | none => .no) fun y s2 w2 F2 al2 H2 _ rel2 st2 v2 => ?_
      · exact q.imp fun Q h => ⟨⟨a, rfl⟩, h⟩
      · cases hr : rd y s2 with
        | none => exact True.intro
        | some q =>
          dsimp only
          cases hf : f a q with
          | none => exact True.intro
          | some v => exact fun Q hQ => hs E F2 al2 H2 σ s2 a w2 q v rel2 (rd_ok rel2 v2 hr) hf Q hQ
    | _ => exact True.intro
  | _ => exact True.intro
def fSplit (a : Str) : D → Option Va
  | .str b => if (b.length == 0) = false ∧ a.length + 2 ≤ sizeLine then some (.fr (.lst ((Txt.split a b).map .str))) else none
  | _ => none
theorem strs_dat {al : List Addr} {F : Hp} : ∀ zs : List Str, DatL K al F (zs.map .str) (zs.map .str)
  | [] => .nil
  | z :: zs => .cons (.str z) (strs_dat zs)
abbrev rSplit1 : V → List V → Hp → VK → Prop := fun x xs H Q => ∃ a b, x = .str a ∧ xs = [.str b] ∧ (b.length == 0) = false ∧ a.length + 2 ≤ sizeLine ∧ rNewStrs (Txt.split a b) H Q
theorem m1s_split : M1S K rSplit1 fSplit := fun E F al H σ s a y q va rel rq e Q hQ => by
  unfold fSplit at e
  split at e
  · split at e
    · rename_i b hz
      cases e
      cases rq.str
      refine ⟨a, b, rfl, rfl, hz.1, hz.2, fun p hp => fin_l rel (strs_dat _) ?_ hQ p hp⟩
      rw [List.length_map]
      exact Nat.le_trans (PyProof.Rows.split_le a b) hz.2
    · cases e
  · cases e
theorem se_split {name : Str} {o e : Expr} {apos pos : Pos} {to te : TE} {m n : M Va} (ho : SE X K W o to m) (he : SE X K W e te n) (hx : name = ("split" : Str) := by rfl) (hs : starEach [e] X.env = [(false, eval e X.env)] := by rfl) (hbase : attributeBase o "split" X.env (eval o X.env) = eval o X.env := by rfl) (hline : (apos.endLine == pos.line) = true := by rfl) :
    SE X K W (.Call (.Attribute o name apos) [e] [] pos) (tM1 rSplit1 to te) (ev1 fSplit m n) := by
  subst hx
  obtain ⟨rfl, po, go⟩ := ho
  obtain ⟨_, pe, ge⟩ := he
  exact ⟨rfl, pe_m1 PySem.F.slot_str_split PySem.F.type_str_split mt_split po pe hs hbase hline, good_m1 m1s_split go ge⟩
def strsOf : List D → Option (List Str)
  | [] => some []
  | .str z :: ds => (strsOf ds).map fun zs => z :: zs
  | _ => none
theorem strsOf_eq : ∀ {ds : List D} {zs : List Str}, strsOf ds = some zs → ds = zs.map .str
  | [], _, h => by cases h; rfl
  | .str z :: ds, _, h => by
    unfold strsOf at h
    cases hq : strsOf ds with
    | none => rw [hq] at h; cases h
    | some zs => rw [hq] at h; cases h; rw [strsOf_eq hq]; rfl
  | .non :: _, _, h => by cases h
  | .bl _ :: _, _, h => by cases h
  | .int _ :: _, _, h => by cases h
  | .ty _ :: _, _, h => by cases h
  | .lst _ :: _, _, h => by cases h
  | .tup _ :: _, _, h => by cases h
  | .lz _ :: _, _, h => by cases h
  | .tz _ :: _, _, h => by cases h
  | .dk _ :: _, _, h => by cases h
  | .dt _ :: _, _, h => by cases h
  | .ins _ _ :: _, _, h => by cases h
  | .ref _ :: _, _, h => by cases h
  | .fn _ :: _, _, h => by cases h
theorem strs_vs {al : List Addr} {F : Hp} : ∀ {zs : List Str} {vs : List V}, DatL K al F (zs.map .str) vs → vs = zs.map .str
  | [], _, .nil => rfl
  | z :: zs, _, .cons h t => by cases h; rw [strs_vs t]; rfl
def fJoin (a : Str) (p : D) : Option Va := match seqOf p with
  | some ds => (match strsOf ds with
    | some zs => if (zs.map (·.length)).sum + zs.length * a.length ≤ 16777216 then some (.im (.str (Txt.join a zs))) else none
    | none => none)
  | none => none
abbrev rJoin1 (K : PySem.W.Frag) : V → List V → Hp → VK → Prop := fun x xs H Q => ∃ a p, ∃ ys : List Str, x = .str a ∧ xs = [.ref p] ∧ (SqL K H p (ys.map V.str) ∨ SqT K H p (ys.map V.str)) ∧
    (ys.map (·.length)).sum + ys.length * a.length ≤ 16777216 ∧ Q (.str (Txt.join a ys)) H
theorem m1s_join : M1S K (rJoin1 K) fJoin := fun E F al H σ s a y q va rel rq e Q hQ => by
  unfold fJoin at e
  split at e
  · rename_i ds hds
    split at e
    · rename_i zs hz
      split at e
      · rename_i hb
        cases e
        obtain ⟨p, vs, rfl, h1, l, _⟩ := seqOf_ok rel.sub rq hds
        have e1 := strsOf_eq hz
        subst e1
        have e2 := strs_vs l
        subst e2
        exact ⟨a, p, zs, rfl, rfl, h1.symm, hb, fin_d rel (.str _) hQ⟩
      · cases e
    · cases e
  · cases e
theorem se_join {name : Str} {o e : Expr} {apos pos : Pos} {to te : TE} {m n : M Va} (ho : SE X K W o to m) (he : SE X K W e te n) (hx : name = ("join" : Str) := by rfl) (hs : starEach [e] X.env = [(false, eval e X.env)] := by rfl) (hbase : attributeBase o "join" X.env (eval o X.env) = eval o X.env := by rfl) (hline : (apos.endLine == pos.line) = true := by rfl) :
    SE X K W (.Call (.Attribute o name apos) [e] [] pos) (tM1 (rJoin1 K) to te) (ev1 fJoin m n) := by
  subst hx
  obtain ⟨rfl, po, go⟩ := ho
  obtain ⟨_, pe, ge⟩ := he
  exact ⟨rfl, pe_m1 PySem.F.slot_str_join PySem.F.type_str_join mt_join po pe hs hbase hline, good_m1 m1s_join go ge⟩
end
end VI
end
section
set_option Elab.async false
set_option linter.all false
set_option maxRecDepth 100000
set_option maxHeartbeats 2000000
/-! V15: a, b = x, y; what a law's defs stand on; the law's end. -/
namespace VI
open PySem PySem.Spec L2

def svPar (i j : Nat) (m : M (List D)) : Sx := svLet m fun ds s => match ds with
  | [a, b] => .nx (setIm j b (setIm i a s))
  | _ => .no
def svAsg (gv : Gv) (ev : M Va) : Sx := svLet (ev >>= esc) fun d s => match gv d s with
  | some s' => .nx s'
  | none => .no
section
variable {X : Cx} {W : Wx} {K : PySem.W.Frag}
theorem ss_par (i j : Nat) {x y : Str} {a b : Expr} {ta : TA} {m : M (List D)} {px py pt pos : Pos} {kt k2 pt2} (ha : SA X K W [a, b] ta m) (hN : X.N.Nodup) (hi : X.N[i]? = some x := by rfl) (hj : X.N[j]? = some y := by rfl) (hij : i ≠ j := by decide)
    (hx : X.env.scope.names.lookup x = some .local := by rfl) (hy : X.env.scope.names.lookup y = some .local := by rfl) (hc : X.calm = true := by rfl)
    (hw : swappedStores [.Tuple [.Name x px, .Name y py] kt pt] (.Tuple [a, b] k2 pt2) X.env = pure (some [x, y]) := by rfl)
    (hs : swapsWithSole [.Tuple [.Name x px, .Name y py] kt pt] (.Tuple [a, b] k2 pt2) pos.line X.env = pure false := by rfl) : SS X K W (.Assign [.Tuple [.Name x px, .Name y py] kt pt] (.Tuple [a, b] k2 pt2) pos) (tPar i j ta) (svPar i j m) := by
  obtain ⟨hK, p, g⟩ := ha
  refine ⟨hK, ps_par hc hN hi hj hij hx hy p hw hs, fun E F al H σ s En rel w => ?_⟩
  refine (g E F al H σ s rel).want (u := fun vs H1 => ∃ v w, vs = [v, w] ∧ En.nx ((σ.set i (some v)).set j (some w)) H1) w (fun ds s1 vs F1 al1 H1 hm r gr q w1 => ?_) fun _ _ _ _ _ h => h
  have q : DatL K al1 F1 ds vs := q
  split at w1
  · obtain _ | ⟨q1, q2⟩ := q
    obtain _ | ⟨q2, q3⟩ := q2
    cases q3
    exact ⟨_, _, rfl, w1 F1 al1 H1 _ ((r.setIm i q1).setIm j q2) .refl⟩
  · exact w1.elim
/-- (a, b) = .. by a tuple that is there -/
theorem ss_asg {is : List Nat} {tg e : Expr} {te : TE} {ev : M Va} {g : TG} {gv : Gv} {pos : Pos} (he : SE X K W e te ev) (hg : SG X K is tg g gv) (hs : swapsWithSole [tg] e pos.line X.env = pure false := by rfl) (hw : swappedStores [tg] e X.env = pure none := by rfl)
    (h1 : (assignEach [tg] X.env).map (·.2) = [assign tg X.env] := by rfl) : SS X K W (.Assign [tg] e pos) (tAsg te g) (svAsg gv ev) := by
  obtain ⟨hK, p, ge⟩ := he
  obtain ⟨_, pg, gg⟩ := hg
  refine ⟨hK, ps_asg p pg hs hw h1, fun E F al H σ s En rel w => ?_⟩
  refine (ge E F al H σ s rel).esc.want w (fun d s1 v F1 al1 H1 hm r gr q w1 => ?_) fun _ _ _ _ _ h => h
  cases hd : gv d s1 with
  | none => rw [hd] at w1; exact w1.elim
  | some s' =>
    rw [hd] at w1
    exact gg E F1 al1 H1 σ s1 s' d v _ r q hd fun σ' r' _ _ _ _ => w1 F1 al1 H1 σ' r' .refl
end

/-! ### the order of keywords -/
def perm {α : Type} (is : List Nat) (l : List α) : List α := is.filterMap fun i => l[i]?
theorem vals_get {vs : List V} {us : List Value} (h : Vals vs us) (i : Nat) : (∃ v u, vs[i]? = some v ∧ us[i]? = some u ∧ RelV v u) ∨ (vs[i]? = none ∧ us[i]? = none) := by
  by_cases hi : i < vs.length
  · obtain ⟨u, hu, ru⟩ := h.get (List.getElem?_eq_getElem hi)
    exact .inl ⟨_, u, List.getElem?_eq_getElem hi, hu, ru⟩
  · have e := h.length
    exact .inr ⟨List.getElem?_eq_none (by omega), List.getElem?_eq_none (by omega)⟩
theorem perm_vals {vs : List V} {us : List Value} (h : Vals vs us) : ∀ is : List Nat, Vals (perm is vs) (perm is us)
  | [] => .nil
  | i :: is => by
    unfold perm
    rcases vals_get h i with ⟨v, u, e1, e2, r⟩ | ⟨e1, e2⟩
    · rw [List.filterMap_cons_some e1, List.filterMap_cons_some e2]; exact .cons r (perm_vals h is)
    · rw [List.filterMap_cons_none e1, List.filterMap_cons_none e2]; exact perm_vals h is
theorem perm_dat {K : PySem.W.Frag} {al : List Addr} {F : Hp} {ds : List D} {vs : List V} (h : DatL K al F ds vs) : ∀ is : List Nat, DatL K al F (perm is ds) (perm is vs)
  | [] => .nil
  | i :: is => by
    unfold perm
    by_cases hi : i < ds.length
    · obtain ⟨v, e2, r⟩ := h.getD (i := i) (List.getElem?_eq_getElem hi)
      rw [List.filterMap_cons_some (List.getElem?_eq_getElem hi), List.filterMap_cons_some e2]
      exact .cons r (perm_dat h is)
    · have e := h.length
      rw [List.filterMap_cons_none (List.getElem?_eq_none (by omega)), List.filterMap_cons_none (List.getElem?_eq_none (by omega))]
      exact perm_dat h is

/-! ### what a law's defs stand on -/
def bnames : List Str := ["isinstance", "len", "int", "str", "list", "tuple", "dict", "bool", "range", "enumerate", "zip", "max", "min", "sorted", "sum", "any", "all", "repr", "type", "set", "reversed", "abs", "iter", "next", "hash", "super"]
structure EnvV (K : PySem.W.Frag) (mg : Str → Option Value) (fn : List He.DefD) (gs : List Str) : Prop where
  free : ∀ x ∈ bnames, mg x = none
  glob : ∀ x ∈ gs, mg x = some (.ref (He.ga K x))
  defs : ∀ (i : Nat) (d : He.DefD), fn[i]? = some d → ∃ fd, FunD K d.name d.qual d.params d.body d.scope (d.dvs K) (d.kws K) (He.fAd K d.at_) fd
def faOf (gs : List Str) : List He.Fa := gs.map .glo ++ bnames.map .free
theorem EnvV.of {K : PySem.W.Frag} {h : Heap} {mg : Str → Option Value} {fn : List He.DefD} {gs : List Str} {more : List He.Fa} (X : K.In h) (G : h.Ns mainGlobals mg) (c : He.SaysD (faOf gs ++ more) fn K) : EnvV K mg fn gs := by
  have c1 := (He.ba (show (((faOf gs ++ more).all fun f => f.ok K) && fn.all fun d => d.ok K) = true from congrArg (fun z : He.AlD => z.1) c)).1
  have c2 := List.all_eq_true.mp c1
  refine ⟨fun x hx => He.free_ok X G (c2 _ (List.mem_append_left _ (List.mem_append_right _ (List.mem_map.mpr ⟨x, hx, rfl⟩)))), fun x hx => He.glo_ok X G (c2 _ (List.mem_append_left _ (List.mem_append_left _ (List.mem_map.mpr ⟨x, hx, rfl⟩)))), fun i d hd => c.def_ i hd⟩
theorem room1 {k : Nat} {A : Around} (r : Room k A) : A.units + 1 < cLine := by have := r.un; omega
section
variable {P : Program} {w : World} {K : PySem.W.Frag} {mg : Str → Option Value} {base : Heap} {j k : Nat} {x : Str} {des : List D} {f : Fs}
theorem FnP.mono (h : FnP P w K mg base j x des f) (hk : j ≤ k) : FnP P w K mg base k x des f := by
  obtain ⟨a, fd, ps, ds, h1, h2⟩ := h
  exact ⟨a, fd, ps, ds, h1.mono hk, h2⟩
theorem FnK.mono {n : Nat} {ks : List Str} {g : {α : Type} → List α → List α → List α → List α} (h : FnK P w K mg base j x n ks g des f) (hk : j ≤ k) : FnK P w K mg base k x n ks g des f := by
  obtain ⟨a, fd, ps, ds, h1, h2⟩ := h
  exact ⟨a, fd, ps, ds, h1.mono hk, h2⟩
/-- the law's def, as the end asks -/
def spLaw (K : PySem.W.Frag) (n : Nat) : Sp := fun vs H Q _ => ∃ (a : Addr) (ns : List Int), vs = [.ref a] ∧ ns.length ≤ n ∧ SqL K H a (ns.map V.int) ∧ ∀ H', Q (.bl true) H'
theorem ints_dat {al : List Addr} {F : Hp} : ∀ ns : List Int, DatL K al F (ns.map .int) (ns.map .int)
  | [] => .nil
  | n :: ns => .cons (.int n) (ints_dat ns)
theorem law_ok {a : Addr} {fd : FuncData} {ps : List Str} {n : Nat} (F : FnOk P w K mg base (CV P w) k a fd ps (spOf K f)) (hn : n ≤ sizeLine) (h : ∀ ns : List Int, ns.length ≤ n → ∃ st, f [.lz (ns.map .int)] [] = .ok (.im (.bl true)) st) : FnOk P w K mg base (CV P w) k a fd ps (spLaw K n) :=
  F.imp fun vs H Q E ⟨b, ns, e, hl, hS, hQ⟩ => by
    subst e
    obtain ⟨st, hf⟩ := h ns hl
    refine ⟨H, [], [], [.lz (ns.map .int)], ⟨fun _ _ h => .inl h, rfl, fun i a o h => by simp at h, List.nodup_nil⟩, .cons (.lz hS (ints_dat ns) (by rw [List.length_map]; omega)) .nil, ?_⟩
    rw [hf]
    intro w F' al' H' _ _ vf
    cases (show Dat K al' F' (.bl true) w from vf)
    exact hQ H'
end
section
variable {K : PySem.W.Frag} {mg : Str → Option Value} {fn : List He.DefD} {gs : List Str} (e : EnvV K mg fn gs)
include e
theorem EnvV.f_isinstance : mg "isinstance" = none := e.free _ (List.mem_of_getElem? (i := 0) rfl)
theorem EnvV.f_len : mg "len" = none := e.free _ (List.mem_of_getElem? (i := 1) rfl)
theorem EnvV.f_int : mg "int" = none := e.free _ (List.mem_of_getElem? (i := 2) rfl)
theorem EnvV.f_str : mg "str" = none := e.free _ (List.mem_of_getElem? (i := 3) rfl)
theorem EnvV.f_list : mg "list" = none := e.free _ (List.mem_of_getElem? (i := 4) rfl)
theorem EnvV.f_tuple : mg "tuple" = none := e.free _ (List.mem_of_getElem? (i := 5) rfl)
theorem EnvV.f_dict : mg "dict" = none := e.free _ (List.mem_of_getElem? (i := 6) rfl)
theorem EnvV.f_bool : mg "bool" = none := e.free _ (List.mem_of_getElem? (i := 7) rfl)
theorem EnvV.f_range : mg "range" = none := e.free _ (List.mem_of_getElem? (i := 8) rfl)
theorem EnvV.f_enumerate : mg "enumerate" = none := e.free _ (List.mem_of_getElem? (i := 9) rfl)
theorem EnvV.f_zip : mg "zip" = none := e.free _ (List.mem_of_getElem? (i := 10) rfl)
theorem EnvV.f_max : mg "max" = none := e.free _ (List.mem_of_getElem? (i := 11) rfl)
theorem EnvV.f_min : mg "min" = none := e.free _ (List.mem_of_getElem? (i := 12) rfl)
theorem EnvV.f_sorted : mg "sorted" = none := e.free _ (List.mem_of_getElem? (i := 13) rfl)
theorem EnvV.f_sum : mg "sum" = none := e.free _ (List.mem_of_getElem? (i := 14) rfl)
theorem EnvV.f_any : mg "any" = none := e.free _ (List.mem_of_getElem? (i := 15) rfl)
theorem EnvV.f_all : mg "all" = none := e.free _ (List.mem_of_getElem? (i := 16) rfl)
theorem EnvV.f_repr : mg "repr" = none := e.free _ (List.mem_of_getElem? (i := 17) rfl)
theorem EnvV.f_type : mg "type" = none := e.free _ (List.mem_of_getElem? (i := 18) rfl)
theorem EnvV.f_set : mg "set" = none := e.free _ (List.mem_of_getElem? (i := 19) rfl)
theorem EnvV.f_reversed : mg "reversed" = none := e.free _ (List.mem_of_getElem? (i := 20) rfl)
theorem EnvV.f_abs : mg "abs" = none := e.free _ (List.mem_of_getElem? (i := 21) rfl)
theorem EnvV.f_iter : mg "iter" = none := e.free _ (List.mem_of_getElem? (i := 22) rfl)
theorem EnvV.f_next : mg "next" = none := e.free _ (List.mem_of_getElem? (i := 23) rfl)
theorem EnvV.f_hash : mg "hash" = none := e.free _ (List.mem_of_getElem? (i := 24) rfl)
theorem EnvV.f_super : mg "super" = none := e.free _ (List.mem_of_getElem? (i := 25) rfl)
theorem EnvV.at_ (i : Nat) {x : Str} (h : gs[i]? = some x := by rfl) : mg x = some (.ref (He.ga K x)) := e.glob x (List.mem_of_getElem? h)
end
/-- of one world or another -/
def CW (P : Program) : CXT := fun outer H s E e s' => ∃ w, CV P w outer H s E e s'
theorem cw_ok {P : Program} {w : World} {K : PySem.W.Frag} {mg : Str → Option Value} {base : Heap} {k : Nat} {f : Addr} {fd : FuncData} {ps : List Str} {sp : Sp} (F : FnOk P w K mg base (CV P w) k f fd ps sp) : FnOk P w K mg base (CW P) k f fd ps sp :=
  ⟨F.len, fun A outer s H args us vs Q E hr he hb hv hs => PySem.codeAny_mono (F.run A outer s H args us vs Q E hr he hb hv hs) fun r s' h => by
    cases r with
    | ok fl => cases fl <;> exact h
    | error e => exact ⟨w, h⟩⟩
theorem cw_no {P : Program} (H : Hp) (s : Shared) (e : Value) (s' : Shared) (h : CW P [] H s (fun _ _ _ => False) e s') : False := by
  obtain ⟨_, _, _, _, _, _, _, _, _, _, _, _, _, z⟩ := h
  exact z
end VI
end
section
set_option Elab.async false
set_option linter.all false
set_option maxRecDepth 100000
set_option maxHeartbeats 2000000
/-! V16: what is to be shown of an evaluator, step by step (no program in sight). -/
namespace VI
open PySem

def OW {α : Type} (o : Option α) (Q : α → Prop) : Prop := match o with
  | some a => Q a
  | none => False
@[simp] theorem ow_some {α : Type} (a : α) (Q : α → Prop) : OW (some a) Q = Q a := rfl
@[simp] theorem ow_none {α : Type} (Q : α → Prop) : OW (none : Option α) Q = False := rfl
@[simp] theorem ow_ite {α : Type} (c : Prop) [Decidable c] (a : Option α) (Q : α → Prop) : OW (if c then a else none) Q = (c ∧ OW a Q) := by
  by_cases h : c <;> simp [h]
@[simp] theorem ow_map {α β : Type} (f : α → β) (o : Option α) (Q : β → Prop) : OW (o.map f) Q = OW o fun a => Q (f a) := by cases o <;> rfl
@[simp] theorem ow_bind {α β : Type} (f : α → Option β) (o : Option α) (Q : β → Prop) : OW (o.bind f) Q = OW o fun a => OW (f a) Q := by cases o <;> rfl
theorem ow_of {α : Type} {o : Option α} {a : α} {Q : α → Prop} (h : o = some a) (q : Q a) : OW o Q := by rw [h]; exact q
def Wp {α : Type} (m : M α) (s : S) (Q : α → S → Prop) (X : Xc → S → Prop) : Prop := match m s with
  | .ok a s' => Q a s'
  | .ex x s' => X x s'
  | .no => False
section
variable {α β : Type} {s : S} {X : Xc → S → Prop}
@[simp] theorem wp_bind (m : M α) (f : α → M β) (Q : β → S → Prop) : Wp (m >>= f) s Q X = Wp m s (fun a s' => Wp (f a) s' Q X) X := by
  unfold Wp
  try dsimp only
  rw [M.bind_run]
  cases m s <;> rfl
@[simp] theorem wp_pure (a : α) (Q : α → S → Prop) : Wp (pure a : M α) s Q X = Q a s := rfl
theorem Wp.mono {m : M α} {Q Q' : α → S → Prop} {X' : Xc → S → Prop} (h : Wp m s Q X) (hq : ∀ a s', Q a s' → Q' a s') (hx : ∀ x s', X x s' → X' x s') : Wp m s Q' X' := by
  unfold Wp at h ⊢
  cases hm : m s with
  | ok a s' => rw [hm] at h; exact hq _ _ h
  | ex x s' => rw [hm] at h; exact hx _ _ h
  | no => rw [hm] at h; exact h
theorem wp_same {m m' : M α} {Q : α → S → Prop} {s s' : S} (h : m s = m' s') : Wp m s Q X = Wp m' s' Q X := by unfold Wp; rw [h]
theorem wp_fun (m : S → Rs α) (Q : α → S → Prop) : Wp (fun s => m s : M α) s Q X = Wp m s Q X := rfl
theorem wp_of_ok {m : M α} {a : α} {s' : S} {Q : α → S → Prop} (h : m s = .ok a s') (q : Q a s') : Wp m s Q X := by unfold Wp; rw [h]; exact q
variable {Q : Va → S → Prop} {a b c m n : M Va}
/-- what slot i has -/
def getV (i : Nat) (s : S) : Option Va := match s.env[i]? with
  | some (.im d) => some (.im d)
  | some (.ow _ _) => some (.pl i)
  | _ => none
@[simp] theorem wp_var (i : Nat) : Wp (evVar i) s Q X = OW (getV i s) fun v => Q v s := by
  unfold Wp evVar getV
  try dsimp only
  cases s.env[i]? with
  | none => rfl
  | some sl => cases sl <;> rfl
@[simp] theorem wp_c (d : D) : Wp (evC d) s Q X = Q (.im d) s := rfl
@[simp] theorem wp_pick {γ : Type} (f : α → Option γ) (x : α) {R : γ → S → Prop} : Wp (pick f x) s R X = OW (f x) fun y => R y s := by
  unfold Wp pick
  try dsimp only
  cases f x <;> rfl
@[simp] theorem wp_op (f : D → D → Option Va) : Wp (evOp f a b) s Q X = Wp a s (fun x s1 => Wp b s1 (fun y s2 => OW (rd x s2) fun p => OW (rd y s2) fun q => OW (f p q) fun v => Q v s2) X) X := by
  unfold evOp
  refine (wp_bind _ _ _).trans (congrArg (fun z => Wp a s z X) (funext fun x => funext fun s1 => ?_))
  refine (wp_bind _ _ _).trans (congrArg (fun z => Wp b s1 z X) (funext fun y => funext fun s2 => ?_))
  unfold Wp
  try dsimp only
  cases hx : rd x s2 with
  | none => rfl
  | some p =>
    cases hy : rd y s2 with
    | none => rfl
    | some q =>
      simp only [ow_some]
      cases f p q <;> rfl
@[simp] theorem wp_opF (f : D → D → Option Va) (x y : Va) : Wp (opF f x y) s Q X = OW (rd x s) fun p => OW (rd y s) fun q => OW (f p q) fun v => Q v s := by
  unfold Wp opF
  try dsimp only
  cases hx : rd x s with
  | none => rfl
  | some p =>
    cases hy : rd y s with
    | none => rfl
    | some q =>
      simp only [ow_some]
      cases f p q <;> rfl
def blV : Va → Option Bool
  | .im (.bl b) => some b
  | _ => none
@[simp] theorem blV_bl (b : Bool) : blV (.im (.bl b)) = some b := rfl
@[simp] theorem wp_B {R : Bool → S → Prop} : Wp (evB m) s R X = Wp m s (fun v s1 => OW (blV v) fun b => R b s1) X := by
  unfold evB
  refine (wp_bind _ _ _).trans (congrArg (fun z => Wp m s z X) (funext fun x => funext fun s1 => ?_))
  cases x with
  | im d => cases d <;> rfl
  | _ => rfl
@[simp] theorem wp_tru (v : Va) {R : Bool → S → Prop} : Wp (truOf v) s R X = OW (rd v s) fun p => OW (tru p) fun b => R b s := by
  unfold Wp truOf
  try dsimp only
  cases rd v s with
  | none => rfl
  | some p => simp only [Option.bind_some, ow_some]; cases tru p <;> rfl
@[simp] theorem wp_T {R : Bool → S → Prop} : Wp (evT m) s R X = Wp m s (fun v s1 => OW (rd v s1) fun p => OW (tru p) fun b => R b s1) X := by
  unfold evT
  simp
@[simp] theorem wp_mNot (m : M Bool) {R : Bool → S → Prop} : Wp (mNot m) s R X = Wp m s (fun b s1 => R (!b) s1) X := by unfold mNot; simp
@[simp] theorem wp_mAnd (m n : M Bool) {R : Bool → S → Prop} : Wp (mAnd m n) s R X = Wp m s (fun b s1 => if b = true then Wp n s1 R X else R false s1) X := by
  unfold mAnd
  refine (wp_bind _ _ _).trans (congrArg (fun z => Wp m s z X) (funext fun x => funext fun s1 => ?_))
  cases x <;> rfl
@[simp] theorem wp_mOr (m n : M Bool) {R : Bool → S → Prop} : Wp (mOr m n) s R X = Wp m s (fun b s1 => if b = true then R true s1 else Wp n s1 R X) X := by
  unfold mOr
  refine (wp_bind _ _ _).trans (congrArg (fun z => Wp m s z X) (funext fun x => funext fun s1 => ?_))
  cases x <;> rfl
@[simp] theorem wp_not : Wp (evNot m) s Q X = Wp m s (fun v s1 => OW (rd v s1) fun p => OW (tru p) fun b => Q (.im (.bl (!b))) s1) X := by unfold evNot; simp
@[simp] theorem wp_and : Wp (evAnd a b) s Q X = Wp a s (fun v s1 => OW (rd v s1) fun p => OW (tru p) fun k => if k = true then Wp b s1 Q X else Q v s1) X := by
  unfold evAnd
  refine (wp_bind _ _ _).trans (congrArg (fun z => Wp a s z X) (funext fun x => funext fun s1 => ?_))
  refine (wp_bind _ _ _).trans ((wp_tru _).trans ?_)
  refine congrArg (OW (rd x s1)) (funext fun p => congrArg (OW (tru p)) (funext fun k => ?_))
  cases k <;> rfl
@[simp] theorem wp_or : Wp (evOr a b) s Q X = Wp a s (fun v s1 => OW (rd v s1) fun p => OW (tru p) fun k => if k = true then Q v s1 else Wp b s1 Q X) X := by
  unfold evOr
  refine (wp_bind _ _ _).trans (congrArg (fun z => Wp a s z X) (funext fun x => funext fun s1 => ?_))
  refine (wp_bind _ _ _).trans ((wp_tru _).trans ?_)
  refine congrArg (OW (rd x s1)) (funext fun p => congrArg (OW (tru p)) (funext fun k => ?_))
  cases k <;> rfl
@[simp] theorem wp_if (c : M Bool) : Wp (evIf c a b) s Q X = Wp c s (fun k s1 => if k = true then Wp a s1 Q X else Wp b s1 Q X) X := by
  unfold evIf
  refine (wp_bind _ _ _).trans (congrArg (fun z => Wp c s z X) (funext fun x => funext fun s1 => ?_))
  cases x <;> rfl
def inV : Va → Option Int
  | .im (.int i) => some i
  | _ => none
@[simp] theorem inV_int (i : Int) : inV (.im (.int i)) = some i := rfl
@[simp] theorem wp_neg : Wp (evNeg m) s Q X = Wp m s (fun v s1 => OW (inV v) fun i => Q (.im (.int (-i))) s1) X := by
  unfold evNeg
  refine (wp_bind _ _ _).trans (congrArg (fun z => Wp m s z X) (funext fun x => funext fun s1 => ?_))
  cases x with
  | im d => cases d <;> rfl
  | _ => rfl
@[simp] theorem wp_chain (f g : D → D → Option Va) : Wp (evChain f g a b c) s Q X = Wp a s (fun x s1 => Wp b s1 (fun y s2 => OW (rd x s2) fun p => OW (rd y s2) fun q => OW (f p q) fun z => OW (blV z) fun k =>
    if k = true then Wp c s2 (fun w s3 => OW (rd y s3) fun p => OW (rd w s3) fun q => OW (g p q) fun v => Q v s3) X else Q (.im (.bl false)) s2) X) X := by
  unfold evChain
  refine (wp_bind _ _ _).trans (congrArg (fun z => Wp a s z X) (funext fun x => funext fun s1 => ?_))
  refine (wp_bind _ _ _).trans (congrArg (fun z => Wp b s1 z X) (funext fun y => funext fun s2 => ?_))
  refine (wp_bind _ _ _).trans ((wp_opF _ _ _).trans ?_)
  refine congrArg (OW (rd x s2)) (funext fun p => congrArg (OW (rd y s2)) (funext fun q => congrArg (OW (f p q)) (funext fun z => ?_)))
  cases z with
  | im d =>
    cases d with
    | bl k => cases k <;> simp
    | _ => rfl
  | _ => rfl
@[simp] theorem wp_nil {R : List D → S → Prop} : Wp evNil s R X = R [] s := rfl
@[simp] theorem wp_cons (r : M (List D)) {R : List D → S → Prop} : Wp (evCons m r) s R X = Wp m s (fun v s1 => Wp (esc v) s1 (fun d s2 => Wp r s2 (fun ds s3 => R (d :: ds) s3) X) X) X := by unfold evCons; simp
@[simp] theorem wp_nilV {R : List Va → S → Prop} : Wp evNilV s R X = R [] s := rfl
@[simp] theorem wp_consV (r : M (List Va)) {R : List Va → S → Prop} : Wp (evConsV m r) s R X = Wp m s (fun v s1 => Wp r s1 (fun vs s2 => R (v :: vs) s2) X) X := by unfold evConsV; simp
@[simp] theorem wp_star (r : M (List D)) {R : List D → S → Prop} : Wp (evStar m r) s R X = Wp m s (fun v s1 => OW (rd v s1) fun p => OW (seqOf p) fun xs => Wp r s1 (fun ys s2 => R (xs ++ ys) s2) X) X := by
  unfold evStar
  refine (wp_bind _ _ _).trans (congrArg (fun z => Wp m s z X) (funext fun x => funext fun s1 => ?_))
  cases hr : rd x s1 with
  | none => simp [Wp, hr]
  | some p =>
    simp only [ow_some]
    cases hs : seqOf p with
    | none => simp [Wp, hr, hs]
    | some xs =>
      simp only [ow_some]
      have e : (match (rd x s1).bind seqOf with
        | some xs => (r >>= fun ys => (pure (xs ++ ys) : M (List D))) s1
        | none => .no) = (r >>= fun ys => (pure (xs ++ ys) : M (List D))) s1 := by rw [hr]; simp only [Option.bind_some, hs]
      exact (wp_same e).trans (wp_bind r _ R)
@[simp] theorem wp_esc_im (d : D) {R : D → S → Prop} : Wp (esc (.im d)) s R X = R d s := rfl
@[simp] theorem wp_esc_fr (o : Ob) {R : D → S → Prop} : Wp (esc (.fr o)) s R X = R o.d s := rfl
/-- slot i, handed on -/
def escP (i : Nat) (s : S) : Option (D × S) := match s.env[i]? with
  | some (.ow false o) => some (o.d, { s with env := s.env.set i (.im o.d) })
  | some (.im d) => some (d, s)
  | _ => none
@[simp] theorem wp_esc_pl (i : Nat) {R : D → S → Prop} : Wp (esc (.pl i)) s R X = OW (escP i s) fun r => R r.1 r.2 := by
  unfold Wp escP
  try dsimp only
  unfold esc
  try dsimp only
  cases s.env[i]? with
  | none => rfl
  | some sl =>
    cases sl with
    | un => rfl
    | im d => rfl
    | ow p o => cases p <;> rfl
@[simp] theorem wp_lst (r : M (List D)) : Wp (evLst r) s Q X = Wp r s (fun ds s1 => ds.length ≤ sizeLine ∧ Q (.fr (.lst ds)) s1) X := by
  unfold evLst
  refine (wp_bind _ _ _).trans (congrArg (fun z => Wp r s z X) (funext fun x => funext fun s1 => ?_))
  unfold Wp
  try dsimp only
  by_cases h : x.length ≤ sizeLine <;> simp [h]
@[simp] theorem wp_tup (r : M (List D)) : Wp (evTup r) s Q X = Wp r s (fun ds s1 => ds.length ≤ sizeLine ∧ Q (.im (.tup ds)) s1) X := by
  unfold evTup
  refine (wp_bind _ _ _).trans (congrArg (fun z => Wp r s z X) (funext fun x => funext fun s1 => ?_))
  unfold Wp
  try dsimp only
  by_cases h : x.length ≤ sizeLine <;> simp [h]
@[simp] theorem wp_part0 {R : Option Int → S → Prop} : Wp (evPart none) s R X = R none s := rfl
@[simp] theorem wp_part1 {R : Option Int → S → Prop} : Wp (evPart (some m)) s R X = Wp m s (fun v s1 => OW (inV v) fun i => R (some i) s1) X := by
  unfold evPart
  simp only
  refine (wp_bind _ _ _).trans (congrArg (fun z => Wp m s z X) (funext fun x => funext fun s1 => ?_))
  cases x with
  | im d => cases d <;> rfl
  | _ => rfl
@[simp] theorem wp_sl (l h : M (Option Int)) : Wp (evSl m l h) s Q X = Wp m s (fun v s1 => Wp l s1 (fun lo s2 => Wp h s2 (fun hi s3 => OW (rd v s3) fun p => OW (fSl p lo hi) fun w => Q w s3) X) X) X := by
  unfold evSl
  refine (wp_bind _ _ _).trans (congrArg (fun z => Wp m s z X) (funext fun x => funext fun s1 => ?_))
  refine (wp_bind _ _ _).trans (congrArg (fun z => Wp l s1 z X) (funext fun lo => funext fun s2 => ?_))
  refine (wp_bind _ _ _).trans (congrArg (fun z => Wp h s2 z X) (funext fun hi => funext fun s3 => ?_))
  unfold Wp
  try dsimp only
  cases rd x s3 with
  | none => rfl
  | some p => simp only [Option.bind_some, ow_some]; cases fSl p lo hi <;> rfl
@[simp] theorem wp_bl (f : List D → Option Va) (r : M (List Va)) : Wp (evBl f r) s Q X = Wp r s (fun vs s1 => OW (rdAll s1 vs) fun ps => OW (f ps) fun v => Q v s1) X := by
  unfold evBl
  refine (wp_bind _ _ _).trans (congrArg (fun z => Wp r s z X) (funext fun vs => funext fun s1 => ?_))
  unfold Wp
  try dsimp only
  cases rdAll s1 vs with
  | none => rfl
  | some ps => simp only [Option.bind_some, ow_some]; cases f ps <;> rfl
@[simp] theorem wp_mut (isT : Ob → Bool) (f : Ob → List D → Option (Ob × D)) (r : M (List D)) : Wp (evMut isT f m r) s Q X = Wp m s (fun v s1 => OW (obV v s1) fun o0 => isT o0 = true ∧ Wp r s1 (fun ds s2 => OW (obV v s2) fun o => OW (f o ds) fun z => Q (.im z.2) (putV v z.1 s2)) X) X := by
  unfold evMut
  refine (wp_bind _ _ _).trans (congrArg (fun z => Wp m s z X) (funext fun v => funext fun s1 => ?_))
  cases ho : obV v s1 with
  | none => simp [Wp, ho]
  | some o0 =>
    by_cases hi : isT o0 = true
    · simp only [ow_some, hi, true_and]
      have e : (match obV v s1 with
        | some o0 => if isT o0 = true then (r >>= (fun ds s => match obV v s with
          | some o => (match f o ds with
            | some (o', x) => Rs.ok (Va.im x) (putV v o' s)
            | none => Rs.no)
          | none => Rs.no : List D → M Va)) s1 else .no
        | none => Rs.no) = (r >>= (fun ds s => match obV v s with
          | some o => (match f o ds with
            | some (o', x) => Rs.ok (Va.im x) (putV v o' s)
            | none => Rs.no)
          | none => Rs.no : List D → M Va)) s1 := by rw [ho]; simp only [hi, if_true]
      refine (wp_same e).trans <| (wp_bind r _ Q).trans (congrArg (fun z => Wp r s1 z X) (funext fun ds => funext fun s2 => ?_))
      unfold Wp
      try dsimp only
      cases obV v s2 with
      | none => rfl
      | some o => simp only [ow_some]; cases f o ds <;> rfl
    · simp [Wp, ho, hi]
def stV : Va → Option Str
  | .im (.str z) => some z
  | _ => none
@[simp] theorem stV_str (z : Str) : stV (.im (.str z)) = some z := rfl
@[simp] theorem wp_ev0 (f : Str → Option Va) : Wp (ev0 f m) s Q X = Wp m s (fun v s1 => OW (stV v) fun z => OW (f z) fun w => Q w s1) X := by
  unfold ev0
  refine (wp_bind _ _ _).trans (congrArg (fun z => Wp m s z X) (funext fun v => funext fun s1 => ?_))
  cases v with
  | im d =>
    cases d with
    | str z => unfold Wp; simp only [stV_str, ow_some]; cases f z <;> rfl
    | _ => rfl
  | _ => rfl
@[simp] theorem wp_ev1 (f : Str → D → Option Va) : Wp (ev1 f m n) s Q X = Wp m s (fun v s1 => OW (stV v) fun z => Wp n s1 (fun y s2 => OW (rd y s2) fun q => OW (f z q) fun w => Q w s2) X) X := by
  unfold ev1
  refine (wp_bind _ _ _).trans (congrArg (fun z => Wp m s z X) (funext fun v => funext fun s1 => ?_))
  cases v with
  | im d =>
    cases d with
    | str z =>
      simp only [stV_str, ow_some]
      refine (wp_bind n _ Q).trans (congrArg (fun z => Wp n s1 z X) (funext fun y => funext fun s2 => ?_))
      unfold Wp
      try dsimp only
      cases rd y s2 with
      | none => rfl
      | some q => simp only [ow_some]; cases f z q <;> rfl
    | _ => rfl
  | _ => rfl
/-! ### calls -/
def WpF (r : Fr) (Q : Va → List Ob → Prop) (X : Xc → List Ob → Prop) : Prop := match r with
  | .ok v st => Q v st
  | .ex x st => X x st
  | .no => False
@[simp] theorem wpf_ok (v : Va) (st : List Ob) (Q : Va → List Ob → Prop) (Y : Xc → List Ob → Prop) : WpF (.ok v st) Q Y = Q v st := rfl
@[simp] theorem wpf_ex (x : Xc) (st : List Ob) (Q : Va → List Ob → Prop) (Y : Xc → List Ob → Prop) : WpF (.ex x st) Q Y = Y x st := rfl
theorem WpF.mono {r : Fr} {Q Q' : Va → List Ob → Prop} {X X' : Xc → List Ob → Prop} (h : WpF r Q X) (hq : ∀ v st, Q v st → Q' v st) (hx : ∀ x st, X x st → X' x st) : WpF r Q' X' := by
  cases r with
  | ok v st => exact hq _ _ h
  | ex x st => exact hx _ _ h
  | no => exact h
theorem WpF.eq {r : Fr} {v : Va} (h : WpF r (fun w _ => w = v) fun _ _ => False) : ∃ st, r = .ok v st := by
  cases r with
  | ok w st => cases (show w = v from h); exact ⟨st, rfl⟩
  | ex x st => exact (show False from h).elim
  | no => exact (show False from h).elim
@[simp] theorem wp_ap (f : Fs) (ds : List D) : Wp (apF f ds) s Q X = WpF (f ds s.st) (fun v st => Q v { s with st := st }) fun x st => X x { s with st := st } := by
  unfold Wp apF
  try dsimp only
  cases f ds s.st <;> rfl
@[simp] theorem wp_call (f : Fs) (des : List D) (r : M (List D)) : Wp (evCall f des r) s Q X = Wp r s (fun ds s1 => WpF (f (ds ++ des) s1.st) (fun v st => Q v { s1 with st := st }) fun x st => X x { s1 with st := st }) X := by
  unfold evCall
  simp
@[simp] theorem wp_callK (f : Fs) (g : {α : Type} → List α → List α → List α → List α) (n k : Nat) (ms : List D) (r q : M (List D)) : Wp (evCallK f g n k ms r q) s Q X = Wp r s (fun ds s1 => Wp q s1 (fun es s2 => (ds.length = n ∧ es.length = k) ∧ WpF (f (g ds ms es) s2.st) (fun v st => Q v { s2 with st := st }) fun x st => X x { s2 with st := st }) X) X := by
  unfold evCallK
  refine (wp_bind _ _ _).trans (congrArg (fun z => Wp r s z X) (funext fun ds => funext fun s1 => ?_))
  refine (wp_bind _ _ _).trans (congrArg (fun z => Wp q s1 z X) (funext fun es => funext fun s2 => ?_))
  by_cases h : ds.length = n ∧ es.length = k
  · refine (wp_same (m' := apF f (g ds ms es)) (s' := s2) (if_pos h)).trans ((wp_ap f _).trans ?_)
    rw [eq_iff_iff]
    exact ⟨fun z => ⟨h, z⟩, fun z => z.2⟩
  · refine (wp_same (m' := fun _ => Rs.no) (s' := s2) (if_neg h)).trans ?_
    rw [eq_iff_iff]
    exact ⟨fun z => z.elim, fun z => h z.1⟩
/-! ### what is walked -/
@[simp] theorem wp_It {R : List D → S → Prop} : Wp (evIt m) s R X = Wp m s (fun v s1 => Wp (esc v) s1 (fun d s2 => OW (itOf d) fun ds => R ds s2) X) X := by
  unfold evIt
  refine (wp_bind _ _ _).trans ((wp_bind _ _ _).trans (congrArg (fun z => Wp m s z X) (funext fun v => funext fun s1 => congrArg (fun z => Wp (esc v) s1 z X) (funext fun d => funext fun s2 => ?_))))
  unfold Wp
  try dsimp only
  cases itOf d <;> rfl
@[simp] theorem wp_rng1 (r : M (List D)) {R : List D → S → Prop} : Wp (evRng1 r) s R X = Wp r s (fun ds s1 => OW (rng1 ds) fun l => R l s1) X := by unfold evRng1; simp
@[simp] theorem wp_rng2 (r : M (List D)) {R : List D → S → Prop} : Wp (evRng2 r) s R X = Wp r s (fun ds s1 => OW (rng2 ds) fun l => R l s1) X := by unfold evRng2; simp
@[simp] theorem wp_enum (r : M (List D)) {R : List D → S → Prop} : Wp (evEnum r) s R X = Wp r s (fun ds s1 => OW (enum1 ds) fun l => R l s1) X := by unfold evEnum; simp
@[simp] theorem wp_zip (r : M (List D)) {R : List D → S → Prop} : Wp (evZip r) s R X = Wp r s (fun ds s1 => OW (zip1 ds) fun l => R l s1) X := by unfold evZip; simp
end

/-! ### statements -/
def WpS (o : Ot) (nx : S → Prop) (rt : Va → S → Prop) (bk ct : S → Prop) (ex : Xc → S → Prop) : Prop := match o with
  | .nx s => nx s
  | .rt v s => rt v s
  | .bk s => bk s
  | .ct s => ct s
  | .ex x s => ex x s
  | .no => False
section
variable {nx bk ct : S → Prop} {rt : Va → S → Prop} {ex : Xc → S → Prop} {s : S}
@[simp] theorem ws_nx : WpS (.nx s) nx rt bk ct ex = nx s := rfl
@[simp] theorem ws_rt (v : Va) : WpS (.rt v s) nx rt bk ct ex = rt v s := rfl
@[simp] theorem ws_bk : WpS (.bk s) nx rt bk ct ex = bk s := rfl
@[simp] theorem ws_ct : WpS (.ct s) nx rt bk ct ex = ct s := rfl
@[simp] theorem ws_skip : WpS (svSkip s) nx rt bk ct ex = nx s := rfl
@[simp] theorem ws_seq (a b : Sx) : WpS (svSeq a b s) nx rt bk ct ex = WpS (a s) (fun s1 => WpS (b s1) nx rt bk ct ex) rt bk ct ex := by
  unfold svSeq
  cases a s <;> rfl
@[simp] theorem ws_let {α : Type} (m : M α) (k : α → Sx) : WpS (svLet m k s) nx rt bk ct ex = Wp m s (fun v s1 => WpS (k v s1) nx rt bk ct ex) ex := by
  unfold svLet Wp
  cases m s <;> rfl
@[simp] theorem ws_if (c : M Bool) (a b : Sx) : WpS (svIf c a b s) nx rt bk ct ex = Wp c s (fun k s1 => if k = true then WpS (a s1) nx rt bk ct ex else WpS (b s1) nx rt bk ct ex) ex := by
  unfold svIf Wp
  cases c s with
  | ok k s1 => cases k <;> rfl
  | _ => rfl
@[simp] theorem ws_expr (m : M Va) : WpS (svExpr m s) nx rt bk ct ex = Wp m s (fun _ s1 => nx s1) ex := by unfold svExpr; simp
@[simp] theorem ws_retN : WpS (svRetN s) nx rt bk ct ex = rt (.im .non) s := rfl
/-- returned -/
def retV (v : Va) (s : S) : Option (Va × S) := match v with
  | .im d => some (.im d, s)
  | .fr o => some (.fr o, s)
  | .pl i => match s.env[i]? with
    | some (.ow false o) => some (.fr o, { s with env := s.env.set i .un })
    | some (.im d) => some (.im d, s)
    | _ => none
@[simp] theorem retV_im (d : D) : retV (.im d) s = some (.im d, s) := rfl
@[simp] theorem retV_fr (o : Ob) : retV (.fr o) s = some (.fr o, s) := rfl
@[simp] theorem ws_ret (m : M Va) : WpS (svRet m s) nx rt bk ct ex = Wp m s (fun v s1 => OW (retV v s1) fun r => rt r.1 r.2) ex := by
  unfold svRet
  rw [ws_let]
  refine congrArg (fun z => Wp m s z ex) (funext fun v => funext fun s1 => ?_)
  cases v with
  | im d => rfl
  | fr o => rfl
  | pl i =>
    show WpS (match s1.env[i]? with
      | some (.ow false o) => .rt (.fr o) { s1 with env := s1.env.set i .un }
      | some (.im d) => .rt (.im d) s1
      | _ => .no) nx rt bk ct ex = OW (match s1.env[i]? with
      | some (.ow false o) => some (.fr o, { s1 with env := s1.env.set i .un })
      | some (.im d) => some (.im d, s1)
      | _ => none) fun r => rt r.1 r.2
    cases s1.env[i]? with
    | none => rfl
    | some sl =>
      cases sl with
      | un => rfl
      | im d => rfl
      | ow p o => cases p <;> rfl
@[simp] theorem ws_set (i : Nat) (m : M Va) : WpS (svHow .set i m s) nx rt bk ct ex = Wp m s (fun v s1 => Wp (esc v) s1 (fun d s2 => nx (setIm i d s2)) ex) ex := by
  show WpS (svSet i m s) nx rt bk ct ex = _
  unfold svSet
  simp
/-- stored as the slot's own -/
def ownV (i : Nat) (v : Va) (s : S) : Option S := match v with
  | .fr o => some { s with env := s.env.set i (.ow false o) }
  | .im d => some (setIm i d s)
  | .pl _ => none
@[simp] theorem ownV_fr (i : Nat) (o : Ob) : ownV i (.fr o) s = some { s with env := s.env.set i (.ow false o) } := rfl
@[simp] theorem ownV_im (i : Nat) (d : D) : ownV i (.im d) s = some (setIm i d s) := rfl
@[simp] theorem ws_own (i : Nat) (m : M Va) : WpS (svHow .own i m s) nx rt bk ct ex = Wp m s (fun v s1 => OW (ownV i v s1) nx) ex := by
  show WpS (svSetO i m s) nx rt bk ct ex = _
  unfold svSetO
  rw [ws_let]
  refine congrArg (fun z => Wp m s z ex) (funext fun v => funext fun s1 => ?_)
  cases v <;> rfl
/-- stored as a cell -/
def cellV (i : Nat) (v : Va) (s : S) : Option S := match v with
  | .fr o => some { env := s.env.set i (.im (.ref s.st.length)), st := s.st ++ [o] }
  | .im d => some (setIm i d s)
  | .pl _ => none
@[simp] theorem cellV_fr (i : Nat) (o : Ob) : cellV i (.fr o) s = some { env := s.env.set i (.im (.ref s.st.length)), st := s.st ++ [o] } := rfl
@[simp] theorem cellV_im (i : Nat) (d : D) : cellV i (.im d) s = some (setIm i d s) := rfl
@[simp] theorem ws_cell (i : Nat) (m : M Va) : WpS (svHow .cell i m s) nx rt bk ct ex = Wp m s (fun v s1 => OW (cellV i v s1) nx) ex := by
  show WpS (svSetC i m s) nx rt bk ct ex = _
  unfold svSetC
  rw [ws_let]
  refine congrArg (fun z => Wp m s z ex) (funext fun v => funext fun s1 => ?_)
  cases v <;> rfl
@[simp] theorem ws_store (ev eo ei : M Va) : WpS (svStore ev eo ei s) nx rt bk ct ex = Wp ev s (fun v s1 => Wp (esc v) s1 (fun d s2 => Wp eo s2 (fun o s3 => Wp ei s3 (fun i s4 => OW (obV o s4) fun ob => OW (rd i s4) fun p => OW (fStore ob p d) fun ob' => nx (putV o ob' s4)) ex) ex) ex) ex := by
  unfold svStore
  rw [ws_let]
  refine (wp_bind _ _ _).trans ((wp_bind _ _ _).trans ?_)
  refine congrArg (fun z => Wp ev s z ex) (funext fun v => funext fun s1 => congrArg (fun z => Wp (esc v) s1 z ex) (funext fun d => funext fun s2 => ?_))
  refine (wp_bind _ _ _).trans (congrArg (fun z => Wp eo s2 z ex) (funext fun o => funext fun s3 => ?_))
  refine (wp_bind _ _ _).trans (congrArg (fun z => Wp ei s3 z ex) (funext fun i => funext fun s4 => ?_))
  rw [wp_pure]
  cases ho : obV o s4 with
  | none => simp [ho, WpS]
  | some ob =>
    cases hi : rd i s4 with
    | none => simp [ho, hi, WpS]
    | some p =>
      simp only [ho, hi, ow_some]
      cases fStore ob p d <;> rfl
@[simp] theorem ws_par (i j : Nat) (m : M (List D)) : WpS (svPar i j m s) nx rt bk ct ex = Wp m s (fun ds s1 => ∃ a b, ds = [a, b] ∧ nx (setIm j b (setIm i a s1))) ex := by
  unfold svPar
  rw [ws_let]
  refine congrArg (fun z => Wp m s z ex) (funext fun ds => funext fun s1 => ?_)
  split
  · apply propext
    constructor
    · intro h; exact ⟨_, _, rfl, h⟩
    · rintro ⟨a, b, e, h⟩; cases e; exact h
  · rename_i hn
    apply propext
    constructor
    · intro h; exact h.elim
    · rintro ⟨a, b, rfl, _⟩; exact hn a b rfl
@[simp] theorem ws_asg (gv : Gv) (m : M Va) : WpS (svAsg gv m s) nx rt bk ct ex = Wp m s (fun v s1 => Wp (esc v) s1 (fun d s2 => OW (gv d s2) nx) ex) ex := by
  unfold svAsg
  rw [ws_let]
  refine (wp_bind _ _ _).trans ?_
  refine congrArg (fun z => Wp m s z ex) (funext fun v => funext fun s1 => congrArg (fun z => Wp (esc v) s1 z ex) (funext fun d => funext fun s2 => ?_))
  cases gv d s2 <;> rfl
@[simp] theorem ws_for (it : M (List D)) (gv : Gv) (body : Sx) : WpS (svFor it gv body s) nx rt bk ct ex = Wp it s (fun ds s1 => WpS (forL gv body ds s1) nx rt bk ct ex) ex := by unfold svFor; simp
theorem WpS.mono {o : Ot} {nx' bk' ct' : S → Prop} {rt' : Va → S → Prop} {ex' : Xc → S → Prop} (h : WpS o nx rt bk ct ex) (h1 : ∀ s, nx s → nx' s) (h2 : ∀ v s, rt v s → rt' v s) (h3 : ∀ s, bk s → bk' s) (h4 : ∀ s, ct s → ct' s) (h5 : ∀ x s, ex x s → ex' x s) : WpS o nx' rt' bk' ct' ex' := by
  cases o with
  | nx s => exact h1 _ h
  | rt v s => exact h2 _ _ h
  | bk s => exact h3 _ h
  | ct s => exact h4 _ h
  | ex x s => exact h5 _ _ h
  | no => exact h
/-- a for, by what holds at each turn -/
theorem for_inv {gv : Gv} {body : Sx} (ds : List D) (I : Nat → S → Prop) (h0 : I 0 s) (hs : ∀ (i : Nat) (d : D) (s : S), ds[i]? = some d → I i s → OW (gv d s) fun s1 => WpS (body s1) (I (i + 1)) rt nx (I (i + 1)) ex) (he : ∀ s, I ds.length s → nx s) : WpS (forL gv body ds s) nx rt bk ct ex := by
  induction ds generalizing s I with
  | nil => exact he s h0
  | cons d ds ih =>
    have h := hs 0 d s rfl h0
    unfold forL
    cases hg : gv d s with
    | none => rw [hg] at h; exact h.elim
    | some s1 =>
      rw [hg] at h
      have h : WpS (body s1) (I 1) rt nx (I 1) ex := h
      have next : ∀ s2, I 1 s2 → WpS (forL gv body ds s2) nx rt bk ct ex := fun s2 h2 => ih (s := s2) (fun i => I (i + 1)) h2 (fun i e s3 he hi => hs (i + 1) e s3 (by simpa using he) hi) fun s3 h3 => he s3 (by simpa using h3)
      simp only
      cases hb : body s1 with
      | nx s2 => rw [hb] at h; exact next s2 h
      | ct s2 => rw [hb] at h; exact next s2 h
      | bk s2 => rw [hb] at h; exact h
      | rt v s2 => rw [hb] at h; exact h
      | ex x s2 => rw [hb] at h; exact h
      | no => rw [hb] at h; exact h.elim
/-- a while, by an invariant and a measure -/
theorem while_inv {c : M Bool} {body : Sx} (I : Nat → S → Prop) (n : Nat) (h0 : I n s) (hs : ∀ n s, I n s → Wp c s (fun k s1 => if k = true then ∃ N : S → Prop, (∀ s', N s' → ∃ m, m < n ∧ I m s') ∧ WpS (body s1) N rt nx N ex else nx s1) ex) : WpS (svWhile c body s) nx rt bk ct ex := by
  have key : ∀ n s, I n s → ∃ o, whileN c body (n + 1) s = o ∧ o ≠ .no ∧ WpS o nx rt bk ct ex := by
    intro n
    induction n using Nat.strongRecOn with
    | _ n ih =>
      intro s h
      have h1 := hs n s h
      unfold Wp at h1
      unfold whileN
      cases hc : c s with
      | no => rw [hc] at h1; exact h1.elim
      | ex x s1 => rw [hc] at h1; exact ⟨_, rfl, by simp, h1⟩
      | ok k s1 =>
        rw [hc] at h1
        cases k with
        | false => exact ⟨_, rfl, by simp, by simpa using h1⟩
        | true =>
          simp only [if_true] at h1
          obtain ⟨N, hN, h1⟩ := h1
          have go : ∀ s2, N s2 → ∃ o, whileN c body n s2 = o ∧ o ≠ .no ∧ WpS o nx rt bk ct ex := fun s2 h2 => by
            obtain ⟨m, hm, i2⟩ := hN s2 h2
            obtain ⟨o, e, ne, w⟩ := ih m hm s2 i2
            exact ⟨o, by rw [whileN_mono (m + 1) n s2 hm (by rw [e]; exact ne), e], ne, w⟩
          simp only
          cases hb : body s1 with
          | nx s2 => rw [hb] at h1; exact go s2 h1
          | ct s2 => rw [hb] at h1; exact go s2 h1
          | bk s2 => rw [hb] at h1; exact ⟨_, rfl, by simp, h1⟩
          | rt v s2 => rw [hb] at h1; exact ⟨_, rfl, by simp, h1⟩
          | ex x s2 => rw [hb] at h1; exact ⟨_, rfl, by simp, h1⟩
          | no => rw [hb] at h1; exact h1.elim
  obtain ⟨o, e, ne, w⟩ := key n s h0
  rw [svWhile_eq e ne]
  exact w
/-- a def -/
@[simp] theorem wpf_fn (n N : Nat) (sv : Sx) (ds : List D) (st : List Ob) {Q : Va → List Ob → Prop} {Y : Xc → List Ob → Prop} : WpF (fnOf n N sv ds st) Q Y = (ds.length = n ∧ WpS (sv ⟨ds.map .im ++ List.replicate (N - n) .un, st⟩) (fun s => Q (.im .non) s.st) (fun v s => (∀ i, v ≠ .pl i) ∧ Q v s.st) (fun _ => False) (fun _ => False) fun x s => Y x s.st) := by
  unfold fnOf
  by_cases h : ds.length = n
  · rw [if_pos h]
    simp only [h, true_and]
    cases sv ⟨ds.map .im ++ List.replicate (N - n) .un, st⟩ with
    | nx s => rfl
    | rt v s =>
      cases v with
      | im d => simp [WpF, WpS]
      | fr o => simp [WpF, WpS]
      | pl i => simp [WpF, WpS]
    | _ => rfl
  · rw [if_neg h]
    simp [h, WpF]
end

/-! ### list comprehensions -/
section
variable {vs : List Nat} {gv : Gv} {tt : M Bool} {te : M Va} {X : Xc → S → Prop} {s : S}
def W1 {α : Type} (m : M α) (s : S) (Q : α → S → Prop) : Prop := Wp m s Q fun _ _ => False
/-- by what holds at each turn of what is found and of the state -/
theorem comp_inv {Q : List D → S → Prop} (ds : List D) (I : Nat → List D → S → Prop) {acc : List D} (h0 : I 0 acc s) (hs : ∀ (i : Nat) (d : D) (acc : List D) (s : S), ds[i]? = some d → I i acc s → OW (gv d s) fun s1 => W1 tt s1 fun k s2 => if k = true then W1 te s2 fun v s3 => W1 (esc v) s3 fun y s4 => acc.length < sizeLine ∧ I (i + 1) (acc ++ [y]) (wipeS vs s4) else I (i + 1) acc (wipeS vs s2))
    (he : ∀ acc s, I ds.length acc s → Q acc s) : ∃ acc' s', compL vs gv tt te ds acc s = .ok acc' s' ∧ Q acc' s' := by
  induction ds generalizing s acc I with
  | nil => exact ⟨acc, s, rfl, he acc s h0⟩
  | cons d ds ih =>
    have h := hs 0 d acc s rfl h0
    unfold compL
    cases hg : gv d s with
    | none => rw [hg] at h; exact h.elim
    | some s1 =>
      rw [hg] at h
      have h : Wp tt s1 (fun k s2 => if k = true then Wp te s2 (fun v s3 => Wp (esc v) s3 (fun y s4 => acc.length < sizeLine ∧ I 1 (acc ++ [y]) (wipeS vs s4)) fun _ _ => False) (fun _ _ => False) else I 1 acc (wipeS vs s2)) fun _ _ => False := h
      have next : ∀ acc2 s2, I 1 acc2 s2 → ∃ acc' s', compL vs gv tt te ds acc2 s2 = .ok acc' s' ∧ Q acc' s' := fun acc2 s2 h2 => ih (s := s2) (acc := acc2) (fun i => I (i + 1)) h2 (fun i e a s3 he hi => hs (i + 1) e a s3 (by simpa using he) hi) fun a s3 h3 => he a s3 (by simpa using h3)
      unfold Wp at h
      simp only
      cases ht : tt s1 with
      | no => rw [ht] at h; exact h.elim
      | ex x s2 => rw [ht] at h; exact h.elim
      | ok k s2 =>
        rw [ht] at h
        cases k with
        | false => exact next acc _ (by simpa using h)
        | true =>
          simp only [if_true] at h
          have h : Wp (te >>= esc) s2 (fun y s4 => acc.length < sizeLine ∧ I 1 (acc ++ [y]) (wipeS vs s4)) (fun _ _ => False) := by
            rw [wp_bind]; exact h
          unfold Wp at h
          simp only
          cases hy : (te >>= esc) s2 with
          | no => rw [hy] at h; exact h.elim
          | ex x s3 => rw [hy] at h; exact h.elim
          | ok y s3 =>
            rw [hy] at h
            simp only
            rw [if_pos h.1]
            exact next _ _ h.2
theorem wp_comp {Q : Va → S → Prop} (it : M (List D)) : Wp (evComp vs it gv tt te) s Q X = Wp it s (fun ds s1 => ∃ acc s2, compL vs gv tt te ds [] (wipeS vs s1) = .ok acc s2 ∧ Q (.fr (.lst acc)) (mergeS vs s1 s2)) X := by
  unfold evComp
  refine (wp_bind _ _ _).trans (congrArg (fun z => Wp it s z X) (funext fun ds => funext fun s1 => ?_))
  unfold Wp
  try dsimp only
  cases compL vs gv tt te ds [] (wipeS vs s1) with
  | ok acc s2 =>
    apply propext
    constructor
    · intro h; exact ⟨_, _, rfl, h⟩
    · rintro ⟨a, b, e, h⟩; cases e; exact h
  | ex x s2 =>
    apply propext
    constructor
    · intro h; exact h.elim
    · rintro ⟨a, b, e, h⟩; cases e
  | no =>
    apply propext
    constructor
    · intro h; exact h.elim
    · rintro ⟨a, b, e, h⟩; cases e
end
end VI
end
section
set_option Elab.async false
set_option linter.all false
set_option maxRecDepth 100000
set_option maxHeartbeats 2000000
/-! V17: comprehensions that leave the state; cutting a text. -/
namespace VI
open PySem

theorem merge_wipe (vs : List Nat) (s : S) : mergeS vs s (wipeS vs s) = s := by
  have e : mergeE vs s.env (wipeE s.env vs) = s.env := by
    refine List.ext_getElem? fun i => ?_
    by_cases hi : i ∈ vs
    · rw [mergeE_in (by rw [wipeE_length]) hi]
    · rw [mergeE_out hi, wipeE_out hi]
  show S.mk (mergeE vs s.env (wipeE s.env vs)) s.st = s
  rw [e]
section
variable {vs : List Nat} {gv : Gv} {tt : M Bool} {te : M Va} {X : Xc → S → Prop} {s : S}
theorem comp_pure (ds : List D) (f : D → Option D) (acc : List D) (h : ∀ d ∈ ds, OW (gv d s) fun s1 => W1 tt s1 fun k s2 => if k = true then W1 te s2 fun v s3 => W1 (esc v) s3 fun y s4 => f d = some y ∧ wipeS vs s4 = s else f d = none ∧ wipeS vs s2 = s) (hl : acc.length + ds.length ≤ sizeLine) :
    compL vs gv tt te ds acc s = .ok (acc ++ ds.filterMap f) s := by
  obtain ⟨a, b, e, h1, h2⟩ := comp_inv (vs := vs) (gv := gv) (tt := tt) (te := te) (s := s) (acc := acc) (Q := fun a s' => a = acc ++ ds.filterMap f ∧ s' = s) ds (fun i a s' => s' = s ∧ a = acc ++ (ds.take i).filterMap f) ⟨rfl, by simp⟩ (fun i d a s' hd ⟨e1, e2⟩ => by
    subst e1 e2
    have hi := (List.getElem?_eq_some_iff.mp hd).1
    have hm := h d (List.mem_of_getElem? hd)
    have et : ds.take (i + 1) = ds.take i ++ [d] := by rw [List.take_succ, hd]; rfl
    have hlen : (acc ++ (ds.take i).filterMap f).length < sizeLine := by
      rw [List.length_append]
      have := List.length_filterMap_le f (ds.take i)
      rw [List.length_take] at this
      omega
    cases hg : gv d s' with
    | none => rw [hg] at hm; exact hm
    | some s1 =>
      rw [hg] at hm
      have hm : Wp tt s1 (fun k s2 => if k = true then W1 te s2 fun v s3 => W1 (esc v) s3 fun y s4 => f d = some y ∧ wipeS vs s4 = s' else f d = none ∧ wipeS vs s2 = s') (fun _ _ => False) := hm
      refine Wp.mono hm (fun k s2 hk => ?_) (fun _ _ z => z)
      cases k with
      | true =>
        rw [if_pos rfl] at hk ⊢
        refine Wp.mono hk (fun v s3 hv => Wp.mono hv (fun y s4 ⟨q1, q2⟩ => ⟨hlen, q2, ?_⟩) fun _ _ z => z) (fun _ _ z => z)
        rw [et, List.filterMap_append, List.append_assoc]
        simp [q1]
      | false =>
        rw [if_neg (by simp)] at hk ⊢
        refine ⟨hk.2, ?_⟩
        rw [et, List.filterMap_append]
        simp [hk.1]) (fun a s' ⟨e1, e2⟩ => ⟨by rw [e2, List.take_length], e1⟩)
  rw [e, h1, h2]
theorem wp_comp_pure {Q : Va → S → Prop} {it : M (List D)} (f : D → Option D) (h : Wp it s (fun ds s1 => (∀ d ∈ ds, OW (gv d (wipeS vs s1)) fun s2 => W1 tt s2 fun k s3 => if k = true then W1 te s3 fun v s4 => W1 (esc v) s4 fun y s5 => f d = some y ∧ wipeS vs s5 = wipeS vs s1 else f d = none ∧ wipeS vs s3 = wipeS vs s1) ∧ ds.length ≤ sizeLine ∧ Q (.fr (.lst (ds.filterMap f))) s1) X) :
    Wp (evComp vs it gv tt te) s Q X := by
  rw [wp_comp]
  refine Wp.mono h (fun ds s1 ⟨h1, h2, h3⟩ => ?_) fun _ _ z => z
  exact ⟨_, _, comp_pure ds f [] h1 (by simpa using h2), by rw [merge_wipe]; simpa using h3⟩
end

/-! ### a text cut at a sign -/
/-- the pieces of L between the signs c; acc: what the first piece begins with -/
def cutC (c : Nat) : List Nat → List Nat → List (List Nat)
  | acc, [] => [acc]
  | acc, d :: L => if d = c then acc :: cutC c [] L else cutC c (acc ++ [d]) L
theorem spl_cut (c : Nat) : ∀ (L acc : List Nat), TL.spl [c] 0 acc L = cutC c acc L
  | [], acc => by rw [TL.spl_nil]; rfl
  | d :: L, acc => by
    unfold cutC
    by_cases h : d = c
    · subst h
      rw [if_pos rfl]
      have hp : TL.pre [d] (d :: L) = true := by simp [TL.pre]
      rw [TL.spl_hit hp]
      exact congrArg (acc :: ·) (spl_cut d L [])
    · rw [if_neg h]
      have hp : TL.pre [c] (d :: L) = false := by simp [TL.pre, h]
      rw [TL.spl_miss hp]
      exact spl_cut c L (acc ++ [d])
end VI
end
section
set_option Elab.async false
set_option linter.all false
set_option maxRecDepth 100000
set_option maxHeartbeats 2000000
/-! V18: values at their forms (for simp). -/
namespace VI
open PySem
section
variable {s : S} {i j : Int} {n k : Nat} {x y : Str} {xs ys : List D} {b c : Bool} {p q : D} {o : Ob}
@[simp] theorem rd_non : rd (.im .non) s = some .non := rfl
@[simp] theorem rd_bl : rd (.im (.bl b)) s = some (.bl b) := rfl
@[simp] theorem rd_int : rd (.im (.int i)) s = some (.int i) := rfl
@[simp] theorem rd_str : rd (.im (.str x)) s = some (.str x) := rfl
@[simp] theorem rd_ty {z : String} : rd (.im (.ty z)) s = some (.ty z) := rfl
@[simp] theorem rd_lst : rd (.im (.lst xs)) s = some (.lst xs) := rfl
@[simp] theorem rd_tup : rd (.im (.tup xs)) s = some (.tup xs) := rfl
@[simp] theorem rd_lz : rd (.im (.lz xs)) s = some (.lz xs) := rfl
@[simp] theorem rd_tz : rd (.im (.tz xs)) s = some (.tz xs) := rfl
@[simp] theorem rd_dk {kvs : List (L2.Key × D)} : rd (.im (.dk kvs)) s = some (.dk kvs) := rfl
@[simp] theorem rd_dt {kvs : List (List L2.Key × D)} : rd (.im (.dt kvs)) s = some (.dt kvs) := rfl
@[simp] theorem rd_ins {z : Str} {fs : List (Str × D)} : rd (.im (.ins z fs)) s = some (.ins z fs) := rfl
@[simp] theorem rd_fn {z : Str} : rd (.im (.fn z)) s = some (.fn z) := rfl
@[simp] theorem rd_ref : rd (.im (.ref n)) s = s.st[n]?.map Ob.d := rfl
@[simp] theorem rd_fr : rd (.fr o) s = some o.d := rfl
/-- what the slot i has, read -/
def slD : Option Sl → Option D
  | some (.ow _ o) => some o.d
  | some (.im (.ref _)) => none
  | some (.im d) => some d
  | _ => none
@[simp] theorem rd_pl : rd (.pl n) s = slD s.env[n]? := by
  show (match s.env[n]? with
    | some (.ow _ o) => some o.d
    | some (.im (.ref _)) => none
    | some (.im d) => some d
    | _ => none) = _
  cases s.env[n]? with
  | none => rfl
  | some sl =>
    cases sl with
    | im d => cases d <;> rfl
    | _ => rfl
@[simp] theorem slD_ow {p : Bool} : slD (some (.ow p o)) = some o.d := rfl
@[simp] theorem slD_lst : slD (some (.im (.lst xs))) = some (.lst xs) := rfl
@[simp] theorem slD_str : slD (some (.im (.str x))) = some (.str x) := rfl
@[simp] theorem slD_non : slD (some (.im .non)) = some .non := rfl
@[simp] theorem slD_int : slD (some (.im (.int i))) = some (.int i) := rfl
@[simp] theorem obd_lst : (Ob.lst xs).d = .lst xs := rfl
@[simp] theorem obd_dk {kvs : List (L2.Key × D)} : (Ob.dk kvs).d = .dk kvs := rfl
@[simp] theorem obd_dt {kvs : List (List L2.Key × D)} : (Ob.dt kvs).d = .dt kvs := rfl
@[simp] theorem obd_ins {z : Str} {fs : List (Str × D)} : (Ob.ins z fs).d = .ins z fs := rfl
@[simp] theorem rda_nil : rdAll s [] = some [] := rfl
@[simp] theorem rda_cons {v : Va} {vs : List Va} {Q : List D → Prop} : OW (rdAll s (v :: vs)) Q = OW (rd v s) fun d => OW (rdAll s vs) fun ds => Q (d :: ds) := by
  show OW (match rd v s, rdAll s vs with
    | some d, some ds => some (d :: ds)
    | _, _ => none) Q = _
  cases rd v s with
  | none => rfl
  | some d => cases rdAll s vs <;> rfl
/-- the slots -/
def slV (n : Nat) : Option Sl → Option Va
  | some (.im d) => some (.im d)
  | some (.ow _ _) => some (.pl n)
  | _ => none
@[simp] theorem getV_eq : getV n s = slV n s.env[n]? := by
  unfold getV
  cases s.env[n]? with
  | none => rfl
  | some sl => cases sl <;> rfl
@[simp] theorem slV_im {d : D} : slV n (some (.im d)) = some (.im d) := rfl
@[simp] theorem slV_ow {p : Bool} : slV n (some (.ow p o)) = some (.pl n) := rfl
@[simp] theorem setIm_env {d : D} : (setIm n d s).env = s.env.set n (.im d) := rfl
@[simp] theorem setIm_st {d : D} : (setIm n d s).st = s.st := rfl
@[simp] theorem setIm_mk {d : D} {e : List Sl} {st : List Ob} : setIm n d ⟨e, st⟩ = ⟨e.set n (.im d), st⟩ := rfl
@[simp] theorem wipeS_mk {e : List Sl} {st : List Ob} {vs : List Nat} : wipeS vs ⟨e, st⟩ = ⟨wipeE e vs, st⟩ := rfl
@[simp] theorem wipeE_nil {e : List Sl} : wipeE e [] = e := rfl
@[simp] theorem wipeE_cons {e : List Sl} {vs : List Nat} : wipeE e (n :: vs) = (wipeE e vs).set n .un := rfl
@[simp] theorem obV_ref : obV (.im (.ref n)) s = s.st[n]? := rfl
/-- the slot's own container -/
def slO : Option Sl → Option Ob
  | some (.ow _ o) => some o
  | _ => none
@[simp] theorem obV_pl : obV (.pl n) s = slO s.env[n]? := by
  show (match s.env[n]? with
    | some (.ow _ o) => some o
    | _ => none) = _
  cases s.env[n]? with
  | none => rfl
  | some sl => cases sl <;> rfl
@[simp] theorem slO_ow {p : Bool} : slO (some (.ow p o)) = some o := rfl
@[simp] theorem putV_ref : putV (.im (.ref n)) o s = { s with st := s.st.set n o } := rfl
theorem putV_pl {p : Bool} {o' : Ob} (h : s.env[n]? = some (.ow p o')) : putV (.pl n) o s = { s with env := s.env.set n (.ow p o) } := by
  show (match s.env[n]? with
    | some (.ow p _) => { s with env := s.env.set n (.ow p o) }
    | _ => s) = _
  rw [h]
@[simp] theorem escP_eq {Q : D × S → Prop} : OW (escP n s) Q = (match s.env[n]? with
    | some (.ow false o) => Q (o.d, { s with env := s.env.set n (.im o.d) })
    | some (.im d) => Q (d, s)
    | _ => False) := by
  unfold escP
  cases s.env[n]? with
  | none => rfl
  | some sl =>
    cases sl with
    | ow p o => cases p <;> rfl
    | _ => rfl
/-! ### operators -/
@[simp] theorem fAdd_int : fAdd (.int i) (.int j) = some (.im (.int (i + j))) := rfl
@[simp] theorem fAdd_str : fAdd (.str x) (.str y) = if x.length + y.length ≤ sizeLine then some (.im (.str (x ++ y))) else none := rfl
@[simp] theorem fAdd_lst : fAdd (.lst xs) (.lst ys) = if xs.length + ys.length ≤ sizeLine then some (.fr (.lst (xs ++ ys))) else none := rfl
@[simp] theorem fAdd_tup : fAdd (.tup xs) (.tup ys) = if xs.length + ys.length ≤ sizeLine then some (.im (.tup (xs ++ ys))) else none := rfl
@[simp] theorem fI_int {C : Int → Int → Bool} {g : Int → Int → Int} : fI C g (.int i) (.int j) = if C i j = true then some (.im (.int (g i j))) else none := rfl
@[simp] theorem okDiv_eq : okDiv i j = true ↔ 0 < j ∧ j < 1073741824 := by simp [okDiv]
@[simp] theorem okMod_eq : okMod i j = true ↔ 0 < j := by simp [okMod]
@[simp] theorem okPow_eq : okPow i j = true ↔ 0 ≤ j ∧ j ≤ 1000000 ∧ i.natAbs < 18446744073709551616 := by simp [okPow]
@[simp] theorem okMul_eq : okMul i j = true ↔ (-18446744073709551616 < i ∧ i < 18446744073709551616) ∨ (-18446744073709551616 < j ∧ j < 18446744073709551616) := by simp [okMul]
@[simp] theorem fMul_int : fMul (.int i) (.int j) = if okMul i j = true then some (.im (.int (i * j))) else none := rfl
@[simp] theorem fMul_str : fMul (.str x) (.int j) = if (decide (0 ≤ j) && (decide (j < 1073741824) && decide (x.length * j.toNat ≤ sizeLine))) = true then some (.im (.str ⟨(List.replicate j.toNat x.cps.toList).flatten.toArray⟩)) else none := rfl
@[simp] theorem fMul_lst : fMul (.lst xs) (.int j) = if (decide (0 ≤ j) && (decide (j < 9223372036854775808) && decide (xs.length * j.toNat ≤ sizeLine))) = true then some (.fr (.lst (List.replicate j.toNat xs).flatten)) else none := rfl
@[simp] theorem fLt_int : fLt (.int i) (.int j) = some (.im (.bl (decide (i < j)))) := rfl
@[simp] theorem fGt_int : fGt (.int i) (.int j) = some (.im (.bl (decide (j < i)))) := rfl
@[simp] theorem fLe_int : fLe (.int i) (.int j) = some (.im (.bl (decide (i ≤ j)))) := rfl
@[simp] theorem fGe_int : fGe (.int i) (.int j) = some (.im (.bl (decide (j ≤ i)))) := rfl
@[simp] theorem fIx_lst : fIx (.lst xs) (.int i) = (L2.atI xs i).map .im := rfl
@[simp] theorem fIx_tup : fIx (.tup xs) (.int i) = (L2.atI xs i).map .im := rfl
@[simp] theorem fIx_lz : fIx (.lz xs) (.int i) = (L2.atI xs i).map .im := rfl
@[simp] theorem fIx_tz : fIx (.tz xs) (.int i) = (L2.atI xs i).map .im := rfl
@[simp] theorem fIx_str : fIx (.str x) (.int i) = if x.length ≤ sizeLine then (L2.atI x.cps.toList i).map fun c => .im (.str ⟨#[c]⟩) else none := rfl
@[simp] theorem fStore_lst {v : D} : fStore (.lst xs) (.int i) v = (L2.ixN xs.length i).map fun j => .lst (xs.set j v) := rfl
@[simp] theorem set_self' {α : Type} {l : List α} {m : Nat} {v : α} : (l.set m v)[m]? = (l[m]?).map fun _ => v := by
  by_cases h : m < l.length
  · simp [h]
  · rw [List.getElem?_eq_none (by simpa using h), List.getElem?_eq_none (by omega)]; rfl
theorem atI_of {α : Type} {l : List α} (h : 0 ≤ i) (h2 : i < l.length) : L2.atI l i = some (l[i.toNat]'(by omega)) := by
  unfold L2.atI L2.ixN
  simp [h, h2]
end
end VI
end
section
set_option Elab.async false
set_option linter.all false
set_option maxRecDepth 100000
set_option maxHeartbeats 2000000
/-! V19: own classes: attributes read and stored, a new instance by its own init. -/
namespace VI
open PySem PySem.Spec L2

/-! ### attributes -/
def putA (f : Str) (d : D) : List (Str × D) → List (Str × D)
  | [] => [(f, d)]
  | (g, e) :: r => if g = f then (g, d) :: r else (g, e) :: putA f d r
section
variable {X : Cx} {W : Wx} {K : PySem.W.Frag}
theorem DatF.look {al : List Addr} {F : Hp} {ds : List (Str × D)} {vs : List (Str × V)} (h : DatF K al F ds vs) (f : Str) : (∃ d v, ds.lookup f = some d ∧ vs.lookup f = some v ∧ Dat K al F d v) ∨ (ds.lookup f = none ∧ vs.lookup f = none) := by
  induction ds generalizing vs with
  | nil => cases h; exact .inr ⟨rfl, rfl⟩
  | cons a ds ih => cases h with
    | cons q t =>
      rename_i k d v vs
      by_cases e : f = k
      · subst e
        exact .inl ⟨d, v, by simp [List.lookup], by simp [List.lookup], q⟩
      · have hb : (f == k) = false := beq_eq_false_iff_ne.mpr e
        have e1 : List.lookup f ((k, d) :: ds) = List.lookup f ds := by simp only [List.lookup, hb]
        have e2 : List.lookup f ((k, v) :: vs) = List.lookup f vs := by simp only [List.lookup, hb]
        rw [e1, e2]
        exact ih t
theorem DatF.put {al : List Addr} {F : Hp} {ds : List (Str × D)} {vs : List (Str × V)} (h : DatF K al F ds vs) (f : Str) {d : D} {v : V} (e : Dat K al F d v) : DatF K al F (putA f d ds) (putF f v vs) := by
  induction ds generalizing vs with
  | nil => cases h; exact .cons e .nil
  | cons a ds ih => cases h with
    | cons q t =>
      rename_i k d' v' vs
      unfold putA
      rw [show putF f v ((k, v') :: vs) = (if k = f then (k, v) :: vs else (k, v') :: putF f v vs) from rfl]
      by_cases hk : k = f
      · rw [if_pos hk, if_pos hk]; exact .cons e t
      · rw [if_neg hk, if_neg hk]; exact .cons q (ih t)
theorem DatF.length {al : List Addr} {F : Hp} {ds : List (Str × D)} {vs : List (Str × V)} (h : DatF K al F ds vs) : ds.length = vs.length := by
  induction ds generalizing vs with
  | nil => cases h; rfl
  | cons a ds ih => cases h with
    | cons q t => simp only [List.length_cons, ih t]
/-- the classes cs are plain, and none of them has the name f -/
def Plain (K : PySem.W.Frag) (cs : List Str) (f : Str) : Prop := ∀ c ∈ cs, Cls K (He.ga K c) ∧ NoAttr K (He.ga K c) f
def fAttr (cs : List Str) (f : Str) : D → Option Va
  | .ins c fs => if cs.contains c = true then (fs.lookup f).map .im else none
  | _ => none
def evAttr (cs : List Str) (f : Str) (m : M Va) : M Va := m >>= fun v s => match (rd v s).bind (fAttr cs f) with
  | some w => .ok w s
  | none => .no
theorem se_attr {e : Expr} {f : Str} {pos : Pos} {te : TE} {ev : M Va} (cs : List Str) (hp : Plain K cs f) (he : SE X K W e te ev) (hb : attributeBase e f X.env (eval e X.env) = eval e X.env := by rfl) : SE X K W (.Attribute e f pos) (tFld K te f) (evAttr cs f ev) := by
  obtain ⟨rfl, p, g⟩ := he
  refine ⟨rfl, pe_fld p hb, fun E F al H σ s rel => ?_⟩
  refine Sat.bind (u := fun x H1 Q => ∃ a C dx fs v, x = .ref a ∧ H1 a = some (.ins C dx fs) ∧ Cls X.K C ∧ NoAttr X.K C f ∧ fs.lookup f = some v ∧ Q v H1) VR.low (g E F al H σ s rel) fun va s1 w1 F1 al1 H1 _ rel1 st1 v1 => ?_
  cases hr : rd va s1 with
  | none => simp only [hr, Option.bind_none]; exact True.intro
  | some p =>
    simp only [hr, Option.bind_some]
    cases hf : fAttr cs f p with
    | none => exact True.intro
    | some w =>
      unfold fAttr at hf
      split at hf
      · rename_i c fs
        split at hf
        · rename_i hc
          obtain ⟨a, dx, vs, e, h1, h2⟩ := Rdr.ins rel1.sub (rd_ok rel1 v1 hr)
          subst e
          rcases DatF.look h2 f with ⟨d, v, e1, e2, e3⟩ | ⟨e1, _⟩
          · rw [e1] at hf
            cases hf
            obtain ⟨k1, k2⟩ := hp c (by simpa using hc)
            exact fun Q hQ => ⟨a, _, dx, vs, v, rfl, h1, k1, k2, e2, hQ v F1 al1 H1 rel1 .refl e3⟩
          · rw [e1] at hf; cases hf
        · cases hf
      · cases hf
/-- o.f = value -/
def fPutA (cs : List Str) (f : Str) (d : D) : Ob → Option Ob
  | .ins c fs => if cs.contains c = true ∧ fs.length < 1000 then some (.ins c (putA f d fs)) else none
  | _ => none
def svAttr (cs : List Str) (f : Str) (ev eo : M Va) : Sx := svLet ((ev >>= esc) >>= fun d => eo >>= fun o => pure (d, o)) fun r s => match (obV r.2 s).bind (fPutA cs f r.1) with
  | some ob => .nx (putV r.2 ob s)
  | none => .no
theorem ss_attr {o e : Expr} {f : Str} {te to : TE} {ev eo : M Va} {pos pos' : Pos} (cs : List Str) (hp : Plain K cs f) (he : SE X K W e te ev) (ho : SE X K W o to eo) (hs : swapsWith e (some (.Attribute o f pos')) pos.line X.env = pure false := by rfl) : SS X K W (.Assign [.Attribute o f pos'] e pos) (sFld K to te f) (svAttr cs f ev eo) := by
  obtain ⟨rfl, pe, ge⟩ := he
  obtain ⟨_, po, go⟩ := ho
  refine ⟨rfl, ps_fld po pe hs, fun E F al H σ s En rel w => ?_⟩
  have q := Sat.bind2 (W := W) (R' := fun Hs al F H s (r : V × V) (x : D × Va) => Dat X.K al F x.1 r.1 ∧ VaR X.K E (fun _ => none) al F H σ s r.2 x.2) (u := fun v H1 (Q : V × V → Hp → Prop) => to σ H1 fun o H2 => Q (v, o) H2) (f := fun d => eo >>= fun o => (pure (d, o) : M (D × Va))) ((ge E F al H σ s rel).esc) fun d s1 wv F1 al1 H1 _ rel1 st1 dv => ?_
  · refine Sat.want (k := fun r s => match (obV r.2 s).bind (fPutA cs f r.1) with
      | some ob => .nx (VI.putV r.2 ob s)
      | none => .no) (u := fun r H2 => ∃ a C dx fs, r.2 = .ref a ∧ H2 a = some (.ins C dx fs) ∧ Cls X.K C ∧ NoAttr X.K C f ∧ fs.length < 1000 ∧ En.nx σ (upd H2 a (.ins C dx (putF f r.1 fs)))) q w (fun r s1 ws F1 al1 H1 hm r1 gr hr w1 => ?_) fun _ _ _ _ _ h => h
    obtain ⟨d, o⟩ := r
    obtain ⟨wv, wo⟩ := ws
    obtain ⟨dv, vo⟩ := hr
    dsimp only at w1 dv vo ⊢
    cases hob : obV o s1 with
    | none => rw [hob] at w1; exact w1.elim
    | some ob =>
      rw [hob] at w1
      simp only [Option.bind_some] at w1
      cases hf : fPutA cs f d ob with
      | none => rw [hf] at w1; exact w1.elim
      | some ob' =>
        rw [hf] at w1
        obtain ⟨a, ho, e, h1, h2, h3⟩ := r1.putV vo hob
        subst e
        unfold fPutA at hf
        split at hf
        · rename_i c fs
          split at hf
          · rename_i hc
            cases hf
            cases ho <;> first | exact h2.elim | skip
            rename_i C dx vs
            obtain ⟨eC, h5⟩ := (show C = He.ga X.K c ∧ DatF X.K al1 F1 fs vs from h2)
            subst eC
            obtain ⟨k1, k2⟩ := hp c (by simpa using hc.1)
            obtain ⟨r2, s2⟩ := h3 (.ins c (putA f d fs)) (.ins (He.ga X.K c) dx (putF f wv vs)) ⟨rfl, h5.put f dv⟩
            exact ⟨a, _, dx, vs, rfl, h1, k1, k2, by rw [← h5.length]; exact hc.2, w1 F1 al1 _ σ r2 s2.gr⟩
          · cases hf
        · cases hf
  · have q2 := go E F1 al1 H1 σ s1 rel1
    rw [M.bind_run]
    cases ho : eo s1 with
    | no => exact True.intro
    | ex x s2 => rw [ho] at q2; exact fun Q hQ => q2 _ fun cls d F2 al2 H2 rel2 st2 x2 => hQ cls d F2 al2 H2 rel2 (st1.trans st2) x2
    | ok vo s2 =>
      rw [ho] at q2
      exact fun Q hQ => q2 _ fun wo F2 al2 H2 rel2 st2 v2 => hQ (wv, wo) F2 al2 H2 rel2 (st1.trans st2) ⟨dv.mono st2.gr, VR.low (fun _ => none) _ _ _ _ _ _ _ (fun _ h => absurd rfl h) v2⟩
end
end VI
end
section
set_option Elab.async false
set_option linter.all false
set_option maxRecDepth 100000
set_option maxHeartbeats 2000000
/-! V20: what a def does, however it is called; own inits; new instances; methods. -/
namespace VI
open PySem PySem.Spec L2

/-! ### a def, called in one way: positional values, keywords ks -/
abbrev SpK := List V → List V → Hp → VK → XK → Prop
def CbG (P : Program) (w : World) (K : PySem.W.Frag) (mg : Str → Option Value) (base : Heap) (k : Nat) (f : Addr) (ks : List Str) (sp : SpK) : Prop :=
  ∀ (A : Around) (outer : List Env) (s : Shared) (H : Hp) (us ws : List Value) (vs zs : List V) (Q : VK) (E : XK), Room k A → Env0 P w K mg base A outer s H → Vals vs us → Vals zs ws → ws.length = ks.length → sp vs zs H Q E →
    PySem.codeAny (model P w) A (.call (.ref f) ⟨us, ks.zip ws⟩) (CR (CV P w) outer P w H s Q E) s
section
variable {P : Program} {w : World} {K : PySem.W.Frag} {mg : Str → Option Value} {base : Heap} {j k : Nat} {f : Addr} {ks : List Str} {sp sp' : SpK}
theorem CbG.mono (h : CbG P w K mg base j f ks sp) (hk : j ≤ k) : CbG P w K mg base k f ks sp := fun A outer s H us ws vs zs Q E hr => h A outer s H us ws vs zs Q E (hr.mono hk)
theorem CbG.imp (h : CbG P w K mg base k f ks sp) (hs : ∀ vs zs H Q E, sp' vs zs H Q E → sp vs zs H Q E) : CbG P w K mg base k f ks sp' := fun A outer s H us ws vs zs Q E hr e0 r rz l q => h A outer s H us ws vs zs Q E hr e0 r rz l (hs _ _ _ _ _ q)
/-- by position, des fill up -/
theorem CbG.pos {fd : FuncData} {ps : List Str} {s0 : Sp} {dvs : List V} {ds : List Value} (F : FnOk P w K mg base (CV P w) k f fd ps s0) (hb : Binds K fd ps ds) (hd : Vals dvs ds) : CbG P w K mg base k f [] (fun vs _ H Q E => s0 (vs ++ dvs) H Q E) := fun A outer s H us ws vs zs Q E hr e0 r rz l q => by
  have e : ([] : List Str).zip ws = [] := rfl
  rw [e]
  have r2 := r.append hd
  have hin : K.In s.heap := e0.mod.kin.keeps fun b o e => (e0.bs b o e).1
  exact F.run A outer s H ⟨us, []⟩ (us ++ ds) (vs ++ dvs) Q E hr e0 (hb s us hin (by rw [← r2.length]; exact F.len _ _ _ _ q)) r2 q
/-- by keywords too -/
theorem CbG.kw {fd : FuncData} {ps : List Str} {s0 : Sp} {n : Nat} {g : List Value → List Value → List Value} {gV : List V → List V → List V} (F : FnOk P w K mg base (CV P w) k f fd ps s0) (hb : KBn K fd ps n ks g gV) : CbG P w K mg base k f ks (fun vs zs H Q E => vs.length = n ∧ s0 (gV vs zs) H Q E) := fun A outer s H us ws vs zs Q E hr e0 r rz l q => by
  have hin : K.In s.heap := e0.mod.kin.keeps fun b o e => (e0.bs b o e).1
  exact F.run A outer s H ⟨us, ks.zip ws⟩ (g us ws) (gV vs zs) Q E hr e0 (hb.to s us ws hin (by rw [← r.length]; exact q.1) l) (hb.rel r rz) q.2
end

/-! ### own inits -/
inductive FrI where
  | ok (fs : List (Str × D)) (st : List Ob) | ex (x : Xc) (st : List Ob) | no
/-- the class's name, the fields so far, the values, the cells -/
abbrev FsI := Str → List (Str × D) → List D → List Ob → FrI
def selfF (c : Str) (s : VI.S) : FrI := match (s.env[0]? : Option Sl) with
  | some (Sl.ow true (Ob.ins c' fs)) => if c' = c then .ok fs s.st else .no
  | _ => .no
def initOf (n N : Nat) (sv : Sx) : FsI := fun c fs ds st => if ds.length + 1 = n then (match sv ⟨.ow true (.ins c fs) :: (ds.map .im ++ List.replicate (N - n) .un), st⟩ with
  | .nx s => selfF c s
  | .rt (.im .non) s => selfF c s
  | .ex x s => .ex x s.st
  | _ => .no) else .no
def FiW (K : PySem.W.Frag) (F : Hp) (al : List Addr) (H : Hp) (x : Addr) (c : Str) (Q : VK) (E : XK) : FrI → Prop
  | .ok fs st' => ∀ (F' : Hp) (al' : List Addr) (H' : Hp) (dx : Addr) (us : List (Str × V)), RelG K F' al' H' st' → Ext (fun a => a ∈ al ∨ a = x) (fun _ => False) F al H F' al' H' → F' x = none → x ∉ al' → H' x = some (.ins (He.ga K c) dx us) → DatF K al' F' fs us → Q .non H'
  | .ex xc st' => ∀ (cls : Value) (d : Option Addr) (F' : Hp) (al' : List Addr) (H' : Hp), RelG K F' al' H' st' → Ext (fun a => a ∈ al ∨ a = x) (fun _ => False) F al H F' al' H' → XcR K al' F' H' cls d xc → E cls d H'
  | .no => False
def spI (K : PySem.W.Frag) (f : FsI) : Sp := fun vs H Q E => ∃ (F : Hp) (al : List Addr) (st : List Ob) (c : Str) (fs : List (Str × D)) (ds : List D) (x dx : Addr) (us : List (Str × V)) (ws : List V), vs = .ref x :: ws ∧ RelG K F al H st ∧ F x = none ∧ x ∉ al ∧ H x = some (.ins (He.ga K c) dx us) ∧ DatF K al F fs us ∧ DatL K al F ds ws ∧ FiW K F al H x c Q E (f c fs ds st)
section
variable {P : Program} {w : World} {K : PySem.W.Frag} {mg : Str → Option Value} {base : Heap} {x qual : Str} {params : Arguments} {body : List Stmt} {scope : Scope} {dvs : List V} {kws : List (Str × V)} {f : Addr} {fd : FuncData}
theorem init_len {n N : Nat} {sv : Sx} {vs : List V} {H : Hp} {Q : VK} {E : XK} (h : spI K (initOf n N sv) vs H Q E) : vs.length = n := by
  obtain ⟨F, al, st, c, fs, ds, y, dx, us, ws, rfl, g, _, _, _, _, d, h⟩ := h
  unfold initOf at h
  split at h
  · rename_i hl
    rw [List.length_cons, ← d.length]; exact hl
  · exact h.elim
/-- a body that is walked with self as its first, handed-in container -/
theorem init_body {N ps : List Str} {sv : Sx} {t : TS} {X : Cx} {H : Hp} {Q : VK} {E : XK} {vs : List V} (hN : ps.length ≤ N.length) (g : GoodS K (fun cls d _ H => E cls d H) t sv) (h : spI K (initOf ps.length N.length sv) vs H Q E) : t { nx := fun _ H' => Q .non H', rt := Q } (L2.start N vs) H := by
  have hlen := init_len h
  obtain ⟨F0, al, st, c, fs, ds, y, dx, us, ws, rfl, rg, hF, hal, hy, df, d, h⟩ := h
  have hl : ds.length + 1 = ps.length := by rw [d.length]; exact hlen
  unfold initOf at h
  rw [if_pos hl] at h
  have eN : N.length - (V.ref y :: ws).length = N.length - ps.length := by rw [hlen]
  have e2 : L2.start N (V.ref y :: ws) = some (V.ref y) :: (ws.map some ++ List.replicate (N.length - ps.length) none) := by
    unfold L2.start
    rw [eN]
    rfl
  have inv : ∀ (i : Nat) (p : Bool) (o : Ob), (Sl.ow true (.ins c fs) :: (ds.map Sl.im ++ List.replicate (N.length - ps.length) Sl.un))[i]? = some (.ow p o) → i = 0 ∧ p = true ∧ o = .ins c fs := fun i p o hh => by
    cases i with
    | zero => cases hh; exact ⟨rfl, rfl, rfl⟩
    | succ i =>
      rw [List.getElem?_cons_succ] at hh
      rcases List.mem_append.mp (List.mem_of_getElem? hh) with m | m
      · obtain ⟨_, _, e⟩ := List.mem_map.mp m; cases e
      · cases List.eq_of_mem_replicate m
  have rel : Rel K ⟨F0, al, H, [y]⟩ F0 al H (L2.start N (V.ref y :: ws)) ⟨.ow true (.ins c fs) :: (ds.map .im ++ List.replicate (N.length - ps.length) Sl.un), st⟩ := by
    rw [e2]
    refine ⟨rg.sub, rg.clen, rg.cell, rg.nd, ?_, fun i sl v h1 h2 => ?_, fun i j p q o u a h1 h2 _ _ => ?_, .refl, fun i p o a h1 h2 => ?_⟩
    · simp [d.length]
    · cases i with
      | zero => cases h1; cases h2; exact ⟨y, _, rfl, hF, hal, hy, rfl, df⟩
      | succ i =>
        rw [List.getElem?_cons_succ] at h1 h2
        rcases d.im_at _ h1 h2 with e | ⟨e, u, rfl, rfl, q⟩
        · subst e; exact True.intro
        · exact ⟨u, rfl, q⟩
    · rw [(inv i p o h1).1, (inv j q u h2).1]
    · obtain ⟨rfl, rfl, rfl⟩ := inv i p o h1
      cases h2
      simp
  refine g _ F0 al H _ _ _ rel ?_
  have ext : ∀ {F' : Hp} {al' : List Addr} {H' : Hp} {σ' : L2.St} {s' : S}, Rel K ⟨F0, al, H, [y]⟩ F' al' H' σ' s' → Ext (fun a => a ∈ al ∨ a = y) (fun _ => False) F0 al H F' al' H' := fun r => r.ent.mono (fun a ha => by
    rcases ha with ha | ha
    · exact .inl (.inl ha)
    · exact .inl (.inr (by simpa using ha))) (fun _ z => z.elim)
  have fin : ∀ {F' : Hp} {al' : List Addr} {H' : Hp} {σ' : L2.St} {s' : S}, FiW K F0 al H y c Q E (selfF c s') → Rel K ⟨F0, al, H, [y]⟩ F' al' H' σ' s' → Q .non H' := fun {F' al' H' σ' s'} h r => by
    unfold selfF at h
    split at h
    · rename_i c' fs' he
      split at h
      · rename_i hc
        subst hc
        have hi : 0 < σ'.length := by rw [← r.elen]; exact (List.getElem?_eq_some_iff.mp he).1
        obtain ⟨a, ho, ea, q1, q2, q3, q4⟩ := r.env 0 _ _ he (List.getElem?_eq_getElem hi)
        have hm := r.onew 0 true _ a he (by rw [List.getElem?_eq_getElem hi, ea])
        have : a = y := by simpa using hm
        subst this
        cases ho <;> first | exact q4.elim | skip
        obtain ⟨rfl, q5⟩ := (show _ ∧ _ from q4)
        exact h F' al' H' _ _ r.g (ext r) q1 q2 q3 q5
      · exact h.elim
    · exact h.elim
  cases hs : sv ⟨.ow true (.ins c fs) :: (ds.map .im ++ List.replicate (N.length - ps.length) Sl.un), st⟩ with
  | nx s' =>
    rw [hs] at h
    exact fun F' al' H' σ' r _ => fin h r
  | rt v s' =>
    rw [hs] at h
    cases v with
    | im e =>
      cases e with
      | non =>
        intro u F' al' H' σ' r _ q _
        cases (show Dat K al' F' .non u from q)
        exact fin h r
      | _ => exact h.elim
    | _ => exact h.elim
  | ex xc s' =>
    rw [hs] at h
    exact fun cls dd F' al' H' σ' r _ q => h cls dd F' al' H' r.g (ext r) q
  | bk s' => rw [hs] at h; exact h.elim
  | ct s' => rw [hs] at h; exact h.elim
  | no => rw [hs] at h; exact h.elim
theorem init_ok {N ps : List Str} {k : Nat} {sv : Sx} (F : FunD K x qual params body scope dvs kws f fd) (SC : FnScope N ps scope)
    (hb : ∀ (cdv : Value) (A : Around) (outer : List Env) (s : Shared) (H : Hp) (E : XK), Room k (A.deeper (PyProof.Rows.envOfC qual scope s.heap.objs.size f cdv)) → Bx (cxOf (CV P w) P w K mg base N qual scope f cdv A outer s H E) (fun cls d _ H => E cls d H) →
      ∃ t, SSs (cxOf (CV P w) P w K mg base N qual scope f cdv A outer s H E) K (fun cls d _ H => E cls d H) body t sv) : FnOk P w K mg base (CV P w) (k + 1) f fd ps (spI K (initOf ps.length N.length sv)) := by
  refine fnD_ok F SC (fun vs H Q E h => init_len h) fun cdv A outer s H vs Q E hr h => ?_
  have tk : L2.Takes (cxOf (CV P w) P w K mg base N qual scope f cdv A outer s H E) (fun cls d _ H => E cls d H) := L2.takes_of rfl rfl rfl rfl
  obtain ⟨t, _, p, g⟩ := hb cdv A outer s H E hr ⟨PassesOwn.leaving, tk⟩
  have hN : ps.length ≤ N.length := by
    have := congrArg List.length SC.pre
    rw [List.length_take] at this
    omega
  exact ⟨t, p, init_body (X := cxOf (CV P w) P w K mg base N qual scope f cdv A outer s H E) hN g h⟩
end
end VI
end
section
set_option Elab.async false
set_option linter.all false
set_option maxRecDepth 100000
set_option maxHeartbeats 2000000
/-! V21: new instances and methods, by position and by keywords. -/
namespace VI
open PySem PySem.Spec L2

/-! ### running an init, a method -/
def tMakeG (C : Addr) (m : Nat) (sp : SpK) (E : L2.St → XK) (t tk : TA) : TE := fun σ H Q => t σ H fun vs H1 => tk σ H1 fun zs H2 => zs.length = m ∧ ∀ x dx, H2 x = none → H2 dx = none → dx ≠ x →
  sp (.ref x :: vs) zs (upd (upd H2 dx (.own x)) x (.ins C dx [])) (fun v H3 => v = .non ∧ Q (.ref x) H3) (E σ)
section
variable {X : Cx} {k : Nat} {f C : Addr} {ks : List Str} {sp : SpK} {E : L2.St → XK} {x : Str} {p pos : Pos} {e : Expr} {es : List Expr} {kws : List Keyword} {t tk : TA}
theorem run_makeG {pins : List (Addr × Obj)} {σ : L2.St} {H : Hp} {s : Shared} {Q : VK} {us ws : List Value} {vs zs : List V} (M : Mk X.K C f) (F : CbG X.prog X.w X.K X.mg X.base k f ks sp) (hr : Room (k + 1) X.A) (hx : PassesAt (CV X.prog X.w) X σ (E σ))
    (I : Inv X pins σ H s) (r : Vals vs us) (rz : Vals zs ws) (lz : zs.length = ks.length)
    (h : ∀ y dx, H y = none → H dx = none → dx ≠ y → sp (.ref y :: vs) zs (upd (upd H dx (.own y)) y (.ins C dx [])) (fun v H2 => v = .non ∧ Q (.ref y) H2) (E σ)) :
    wpAny (model X.prog X.w) X.A (call (.ref C) us (ks.zip ws)) (EP X pins σ Q) X.xe s := by
  have top := I.hok.fresh (Nat.le_succ s.heap.objs.size)
  have low := I.hok.fresh (Nat.le_refl s.heap.objs.size)
  have want := h _ _ top low (Nat.ne_of_lt (Nat.lt_succ_self _))
  have J := Inv.made (C := C) I
  have both : Vals (V.ref (s.heap.objs.size + 1) :: vs) (Value.ref (s.heap.objs.size + 1) :: us) := .cons rfl r
  have room := hr.make C us (ks.zip ws)
  have base0 := J.env0.make C us (ks.zip ws)
  refine PySem.wpAny_call (make_map (f := f) I.kIn M.makes M.init (beq_iff_eq.mp M.fn) (PySem.codeAny_mono (F _ X.stack _ _ (Value.ref (s.heap.objs.size + 1) :: us) ws _ zs _ (E σ) room base0 both rz (rz.length.symm.trans lz) want) fun out s' end_ => ?_))
  match out, end_ with
  | .error e, z => exact hx pins _ _ e s' J z
  | .ok (.ret u), z =>
    obtain ⟨v, H', J', rv, ev, q3⟩ := J.after z
    subst ev
    exact ⟨rv, ⟨V.ref (s.heap.objs.size + 1), H', J', rfl, q3⟩⟩
  | .ok .next, z => exact z.elim
  | .ok .brk, z => exact z.elim
  | .ok .cont, z => exact z.elim
theorem pe_makeG (M : Mk X.K C f) (F : CbG X.prog X.w X.K X.mg X.base k f [] sp) (hr : Room (k + 1) X.A) (hg : Gl X x) (hm : X.mg x = some (.ref C)) (hx : ∀ σ, PassesAt (CV X.prog X.w) X σ (E σ)) (ha : PA X (e :: es) t)
    (hdb : (x == ("__debug__" : Str)) = false := by decide) (he : starEach (e :: es) X.env = (false, eval e X.env) :: starEach es X.env := by rfl) (hpl : (backTo pos (starEach es X.env)).any (·.1) = false := by rfl) :
    PE X (.Call (.Name x p) (e :: es) [] pos) (tMakeG C 0 sp E t tNil) := by
  refine ⟨fun pins s σ H Q I h => ?_⟩
  refine PySem.wpAny_Call_Name_kw (ld_glob I hg hm ?_ hdb)
  refine PySem.W.callWith_K (h₀ := X.base) I.ok.mod.kin M.kp (thn (ha.run pos pins s σ H _ I h) fun us s1 ⟨vs, H1, I1, r, q⟩ => ⟨I1.kIn, ?_⟩) he hpl
  exact run_makeG (ks := []) (ws := []) M F hr (hx σ) I1 r .nil rfl q.2
theorem pe_makeG0 (M : Mk X.K C f) (F : CbG X.prog X.w X.K X.mg X.base k f [] sp) (hr : Room (k + 1) X.A) (hg : Gl X x) (hm : X.mg x = some (.ref C)) (hx : ∀ σ, PassesAt (CV X.prog X.w) X σ (E σ))
    (hdb : (x == ("__debug__" : Str)) = false := by decide) : PE X (.Call (.Name x p) [] [] pos) (tMakeG C 0 sp E tNil tNil) := by
  refine ⟨fun pins s σ H Q I h => ?_⟩
  refine PySem.wpAny_Call_Name_kw (ld_glob I hg hm ?_ hdb)
  exact PySem.W.callWith_K0 I.kIn M.kp (run_makeG (ks := []) (us := []) (ws := []) M F hr (hx σ) I .nil .nil rfl h.2)
theorem pe_makeGK (M : Mk X.K C f) (F : CbG X.prog X.w X.K X.mg X.base k f ks sp) (hr : Room (k + 1) X.A) (hg : Gl X x) (hm : X.mg x = some (.ref C)) (hx : ∀ σ, PassesAt (CV X.prog X.w) X σ (E σ)) (ha : PA X (e :: es) t) (hkw : PK X kws tk)
    (hall : (backToKw pos (keywordEach kws X.env)).all (·.1.isSome) = true := by rfl) (hks : (backToKw pos (keywordEach kws X.env)).filterMap (·.1) = ks := by rfl) (hdb : (x == ("__debug__" : Str)) = false := by decide)
    (he : starEach (e :: es) X.env = (false, eval e X.env) :: starEach es X.env := by rfl) (hpl : ((backTo pos (starEach (e :: es) X.env)).any (·.1) || (backToKw pos (keywordEach kws X.env)).any (·.1.isNone)) = false := by rfl) :
    PE X (.Call (.Name x p) (e :: es) kws pos) (tMakeG C ks.length sp E t tk) := by
  refine ⟨fun pins s σ H Q I h => ?_⟩
  refine PySem.wpAny_Call_Name_kw (ld_glob I hg hm ?_ hdb)
  refine PySem.W.callWith_KW (h₀ := X.base) I.ok.mod.kin M.kp hall (thn (ha.run pos pins s σ H _ I h) fun us s1 ⟨vs, H1, I1, r, q⟩ => ?_) hpl he
  refine thn (hkw.run pos pins s1 σ H1 _ I1 q) fun ws s2 ⟨zs, H2, I2, rz, l2, q2⟩ => ⟨I2.kIn, ?_⟩
  rw [hks]
  exact run_makeG M F hr (hx σ) I2 r rz l2 q2
theorem pe_makeGK0 (M : Mk X.K C f) (F : CbG X.prog X.w X.K X.mg X.base k f ks sp) (hr : Room (k + 1) X.A) (hg : Gl X x) (hm : X.mg x = some (.ref C)) (hx : ∀ σ, PassesAt (CV X.prog X.w) X σ (E σ)) (hkw : PK X kws tk)
    (hall : (backToKw pos (keywordEach kws X.env)).all (·.1.isSome) = true := by rfl) (hks : (backToKw pos (keywordEach kws X.env)).filterMap (·.1) = ks := by rfl) (hdb : (x == ("__debug__" : Str)) = false := by decide)
    (hpl : ((backTo pos (starEach [] X.env)).any (·.1) || (backToKw pos (keywordEach kws X.env)).any (·.1.isNone)) = false := by rfl) :
    PE X (.Call (.Name x p) [] kws pos) (tMakeG C ks.length sp E tNil tk) := by
  refine ⟨fun pins s σ H Q I h => ?_⟩
  refine PySem.wpAny_Call_Name_kw (ld_glob I hg hm ?_ hdb)
  refine PySem.W.callWith_KW0 (h₀ := X.base) I.ok.mod.kin M.kp hall ?_ hpl
  refine thn (hkw.run pos pins s σ H _ I h) fun ws s2 ⟨zs, H2, I2, rz, l2, q2⟩ => ⟨I2.kIn, ?_⟩
  rw [hks]
  exact run_makeG (us := []) (vs := []) M F hr (hx σ) I2 .nil rz l2 q2
end
/-- an init, called in one way -/
abbrev FsIK := Str → List (Str × D) → List D → List D → List Ob → FrI
def spIK (K : PySem.W.Frag) (f : FsIK) : SpK := fun vs zs H Q E => ∃ (F : Hp) (al : List Addr) (st : List Ob) (c : Str) (fs : List (Str × D)) (ds es : List D) (x dx : Addr) (us : List (Str × V)) (ws : List V), vs = .ref x :: ws ∧ RelG K F al H st ∧ F x = none ∧ x ∉ al ∧ H x = some (.ins (He.ga K c) dx us) ∧ DatF K al F fs us ∧ DatL K al F ds ws ∧ DatL K al F es zs ∧ FiW K F al H x c Q E (f c fs ds es st)
def evMake (f : FsIK) (c : Str) (m : M (List D)) (k : Nat) (mk : M (List D)) : M Va := m >>= fun ds => mk >>= fun es => fun s => if es.length = k then (match f c [] ds es s.st with
  | .ok fs st => .ok (.fr (.ins c fs)) { s with st := st }
  | .ex x st => .ex x { s with st := st }
  | .no => .no) else .no
section
variable {K : PySem.W.Frag} {W : Wx} {f : FsIK} {c : Str} {k : Nat} {ta tk : TA} {m mk : M (List D)}
theorem good_make (ga : GoodA K W ta m) (gk : GoodA K W tk mk) : GoodE K W (tMakeG (He.ga K c) k (spIK K f) (WE W) ta tk) (evMake f c m k mk) := fun E F al H σ s rel => by
  refine Sat.bind (u := fun vs H1 Q => tk σ H1 fun zs H2 => zs.length = k ∧ ∀ x dx, H2 x = none → H2 dx = none → dx ≠ x → spIK K f (.ref x :: vs) zs (upd (upd H2 dx (.own x)) x (.ins (He.ga K c) dx [])) (fun v H3 => v = .non ∧ Q (.ref x) H3) (WE W σ)) VR.low (ga E F al H σ s rel) fun ds s1 ws F1 al1 H1 _ rel1 st1 v1 => ?_
  refine Sat.bind (u := fun zs H2 Q => zs.length = k ∧ ∀ x dx, H2 x = none → H2 dx = none → dx ≠ x → spIK K f (.ref x :: ws) zs (upd (upd H2 dx (.own x)) x (.ins (He.ga K c) dx [])) (fun v H3 => v = .non ∧ Q (.ref x) H3) (WE W σ)) VR.low (gk E F1 al1 H1 σ s1 rel1) fun es s2 zs F2 al2 H2 _ rel2 st2 v2 => ?_
  have v1 : DatL K al1 F1 ds ws := v1
  have v2 : DatL K al2 F2 es zs := v2
  show Sat K E W (VR K E σ) F2 al2 H2 σ s2 _ (if es.length = k then (match f c [] ds es s2.st with
    | .ok fs st => .ok (.fr (.ins c fs)) { s2 with st := st }
    | .ex x st => .ex x { s2 with st := st }
    | .no => .no) else .no)
  by_cases hl : es.length = k
  · rw [if_pos hl]
    have hz : zs.length = k := by rw [← v2.length]; exact hl
    -- what an init is begun with
    have start_ : ∀ (Q : VK) (x dx : Addr), H2 x = none → H2 dx = none → dx ≠ x → FiW K F2 al2 (upd (upd H2 dx (.own x)) x (.ins (He.ga K c) dx [])) x c (fun v H3 => v = .non ∧ Q (.ref x) H3) (WE W σ) (f c [] ds es s2.st) → spIK K f (.ref x :: ws) zs (upd (upd H2 dx (.own x)) x (.ins (He.ga K c) dx [])) (fun v H3 => v = .non ∧ Q (.ref x) H3) (WE W σ) := fun Q x dx hx hdx hne w => by
      have h1 : (upd H2 dx (.own x)) x = none := by rw [upd_ne (Ne.symm hne)]; exact hx
      have r3 := (rel2.new0 (o := .own x) hdx).new0 (o := .ins (He.ga K c) dx []) h1
      obtain ⟨f1, f2, _⟩ := rel2.fresh hx
      exact ⟨F2, al2, s2.st, c, [], ds, es, x, dx, [], ws, rfl, r3.g, f1, fun m => f2 (.inl m), upd_same, .nil, v1.mono st2.gr, v2, w⟩
    -- back from it
    have back : ∀ (x dx : Addr) (F' : Hp) (al' : List Addr) (H' : Hp) (st' : List Ob), H2 x = none → H2 dx = none → dx ≠ x → RelG K F' al' H' st' → Ext (fun a => a ∈ al2 ∨ a = x) (fun _ => False) F2 al2 (upd (upd H2 dx (.own x)) x (.ins (He.ga K c) dx [])) F' al' H' → Rel K E F' al' H' σ { s2 with st := st' } ∧ Stp σ s2 { s2 with st := st' } F2 al2 H2 F' al' H' := fun x dx F' al' H' st' hx hdx hne g ex => by
      have h1 : (upd H2 dx (.own x)) x = none := by rw [upd_ne (Ne.symm hne)]; exact hx
      have e1 : Ext (fun a => a ∈ al2) (fun _ => False) F2 al2 H2 F2 al2 (upd (upd H2 dx (.own x)) x (.ins (He.ga K c) dx [])) := (Ext.new0 hdx).trans (Ext.new0 (T := fun a => a ∈ al2) (Z := fun _ => False) h1) (fun _ z => .inl z) (fun _ z => z.elim)
      exact rel2.call g (e1.trans ex (fun a ha => ha.elim .inl fun z => .inr (by subst z; exact hx)) (fun _ z => z.elim))
    cases hf : f c [] ds es s2.st with
    | no => exact True.intro
    | ok fs st =>
      refine fun Q hQ => ⟨hz, fun x dx hx hdx hne => start_ Q x dx hx hdx hne ?_⟩
      rw [hf]
      intro F' al' H' dx' us g ex q1 q2 q3 q4
      obtain ⟨r4, s4⟩ := back x dx F' al' H' st hx hdx hne g ex
      refine ⟨rfl, hQ _ F' al' H' r4 s4 ⟨x, _, rfl, q1, q3, ⟨rfl, q4⟩, fun t => ?_, (rel2.fresh hx).2.2, hx⟩⟩
      rcases t with t | t
      · exact q2 t
      · exact (rel2.fresh hx).2.1 (.inr t)
    | ex xc st =>
      refine fun Q hQ => ⟨hz, fun x dx hx hdx hne => start_ Q x dx hx hdx hne ?_⟩
      rw [hf]
      intro cls dd F' al' H' g ex q
      obtain ⟨r4, s4⟩ := back x dx F' al' H' st hx hdx hne g ex
      exact hQ cls dd F' al' H' r4 s4 q
  · rw [if_neg hl]; exact True.intro
end
/-- the class c is made by f -/
def MkP (P : Program) (w : World) (K : PySem.W.Frag) (mg : Str → Option Value) (base : Heap) (k : Nat) (c : Str) (ks : List Str) (f : FsIK) : Prop := ∃ a : Addr, Mk K (He.ga K c) a ∧ CbG P w K mg base k a ks (spIK K f) ∧ mg c = some (.ref (He.ga K c))
theorem MkP.mono {P : Program} {w : World} {K : PySem.W.Frag} {mg : Str → Option Value} {base : Heap} {j k : Nat} {c : Str} {ks : List Str} {f : FsIK} (h : MkP P w K mg base j c ks f) (hk : j ≤ k) : MkP P w K mg base k c ks f := by
  obtain ⟨a, h1, h2, h3⟩ := h
  exact ⟨a, h1, h2.mono hk, h3⟩
section
variable {X : Cx} {W : Wx} {K : PySem.W.Frag} {k : Nat} {x : Str} {ks : List Str} {f : FsIK} {p pos : Pos} {e : Expr} {es : List Expr} {kws : List Keyword} {th tk : TA} {m mk : M (List D)}
theorem se_make (hF : MkP X.prog X.w K X.mg X.base k x [] f) (hr : Room (k + 1) X.A) (hx : ∀ σ, PassesAt (CV X.prog X.w) X σ (WE W σ)) (ha : SA X K W (e :: es) th m) (hg : Gl X x := by rfl)
    (hdb : (x == ("__debug__" : Str)) = false := by decide) (he : starEach (e :: es) X.env = (false, eval e X.env) :: starEach es X.env := by rfl) (hpl : (backTo pos (starEach es X.env)).any (·.1) = false := by rfl) :
    SE X K W (.Call (.Name x p) (e :: es) [] pos) (tMakeG (He.ga K x) 0 (spIK K f) (WE W) th tNil) (evMake f x m 0 evNil) := by
  obtain ⟨rfl, pa, ga⟩ := ha
  obtain ⟨a, h1, h2, h3⟩ := hF
  exact ⟨rfl, pe_makeG h1 h2 hr hg h3 hx pa hdb he hpl, good_make ga (sa_nil (X := X) (W := W)).2.2⟩
theorem se_make0 (hF : MkP X.prog X.w K X.mg X.base k x [] f) (hr : Room (k + 1) X.A) (hx : ∀ σ, PassesAt (CV X.prog X.w) X σ (WE W σ)) (hK : X.K = K := by rfl) (hg : Gl X x := by rfl) (hdb : (x == ("__debug__" : Str)) = false := by decide) :
    SE X K W (.Call (.Name x p) [] [] pos) (tMakeG (He.ga K x) 0 (spIK K f) (WE W) tNil tNil) (evMake f x evNil 0 evNil) := by
  subst hK
  obtain ⟨a, h1, h2, h3⟩ := hF
  exact ⟨rfl, pe_makeG0 h1 h2 hr hg h3 hx hdb, good_make (sa_nil (X := X) (W := W)).2.2 (sa_nil (X := X) (W := W)).2.2⟩
theorem se_makeK (hF : MkP X.prog X.w K X.mg X.base k x ks f) (hr : Room (k + 1) X.A) (hx : ∀ σ, PassesAt (CV X.prog X.w) X σ (WE W σ)) (ha : SA X K W (e :: es) th m) (hkw : SK X K W kws tk mk) (hg : Gl X x := by rfl)
    (hall : (backToKw pos (keywordEach kws X.env)).all (·.1.isSome) = true := by rfl) (hks : (backToKw pos (keywordEach kws X.env)).filterMap (·.1) = ks := by rfl) (hdb : (x == ("__debug__" : Str)) = false := by decide)
    (he : starEach (e :: es) X.env = (false, eval e X.env) :: starEach es X.env := by rfl) (hpl : ((backTo pos (starEach (e :: es) X.env)).any (·.1) || (backToKw pos (keywordEach kws X.env)).any (·.1.isNone)) = false := by rfl) :
    SE X K W (.Call (.Name x p) (e :: es) kws pos) (tMakeG (He.ga K x) ks.length (spIK K f) (WE W) th tk) (evMake f x m ks.length mk) := by
  obtain ⟨rfl, pa, ga⟩ := ha
  obtain ⟨_, pk, gk⟩ := hkw
  obtain ⟨a, h1, h2, h3⟩ := hF
  exact ⟨rfl, pe_makeGK h1 h2 hr hg h3 hx pa pk hall hks hdb he hpl, good_make ga gk⟩
theorem se_makeK0 (hF : MkP X.prog X.w K X.mg X.base k x ks f) (hr : Room (k + 1) X.A) (hx : ∀ σ, PassesAt (CV X.prog X.w) X σ (WE W σ)) (hkw : SK X K W kws tk mk) (hg : Gl X x := by rfl)
    (hall : (backToKw pos (keywordEach kws X.env)).all (·.1.isSome) = true := by rfl) (hks : (backToKw pos (keywordEach kws X.env)).filterMap (·.1) = ks := by rfl) (hdb : (x == ("__debug__" : Str)) = false := by decide)
    (hpl : ((backTo pos (starEach [] X.env)).any (·.1) || (backToKw pos (keywordEach kws X.env)).any (·.1.isNone)) = false := by rfl) :
    SE X K W (.Call (.Name x p) [] kws pos) (tMakeG (He.ga K x) ks.length (spIK K f) (WE W) tNil tk) (evMake f x evNil ks.length mk) := by
  obtain ⟨rfl, pk, gk⟩ := hkw
  obtain ⟨a, h1, h2, h3⟩ := hF
  exact ⟨rfl, pe_makeGK0 h1 h2 hr hg h3 hx pk hall hks hdb hpl, good_make (sa_nil (X := X) (W := W)).2.2 gk⟩
end
end VI
end
section
set_option Elab.async false
set_option linter.all false
set_option maxRecDepth 100000
set_option maxHeartbeats 2000000
/-! V22: methods of own classes, by the receiver's class. -/
namespace VI
open PySem PySem.Spec L2

def tMethG (Ok : Addr → Prop) (So : Addr → SpK) (m : Str) (n : Nat) (E : L2.St → XK) (ta : TE) (t tk : TA) : TE := fun σ H Q => ta σ H fun x H1 => ∃ a C dx fs, x = .ref a ∧ H1 a = some (.ins C dx fs) ∧ fs.lookup m = none ∧ Ok C ∧
  t σ H1 fun vs H2 => tk σ H2 fun zs H3 => zs.length = n ∧ So C (x :: vs) zs H3 Q (E σ)
section
variable {X : Cx} {k : Nat} {ks : List Str} {Ok : Addr → Prop} {So : Addr → SpK} {E : L2.St → XK} {m : Str} {apos pos : Pos} {o e : Expr} {es : List Expr} {kws : List Keyword} {ta : TE} {t tk : TA}
/-- what is known of the classes that the receiver may be of -/
abbrev MOk (X : Cx) (k : Nat) (ks : List Str) (m : Str) (Ok : Addr → Prop) (So : Addr → SpK) : Prop := ∀ C, Ok C → Cls X.K C ∧ ∃ g, Meth X.K C m g ∧ CbG X.prog X.w X.K X.mg X.base k g ks (So C)
theorem run_methG {pins : List (Addr × Obj)} {σ : L2.St} {H : Hp} {s : Shared} {Q : VK} {us ws : List Value} {vs zs : List V} {g a : Addr} {sp : SpK} (F : CbG X.prog X.w X.K X.mg X.base k g ks sp) (hr : Room k X.A) (hx : PassesAt (CV X.prog X.w) X σ (E σ))
    (I : Inv X pins σ H s) (r : Vals vs us) (rz : Vals zs ws) (lz : zs.length = ks.length) (h : sp (.ref a :: vs) zs H Q (E σ)) : wpAny (model X.prog X.w) X.A (call (.ref g) (.ref a :: us) (ks.zip ws)) (EP X pins σ Q) X.xe s := by
  refine PySem.wpAny_call (PySem.codeAny_mono (F X.A X.stack s H (.ref a :: us) ws (.ref a :: vs) zs Q (E σ) hr I.env0 (.cons rfl r) rz (rz.length.symm.trans lz) h) fun out s' end_ => ?_)
  match out, end_ with
  | .error e, z => exact hx pins H s e s' I z
  | .ok (.ret u), z => exact I.after z
  | .ok .next, z => exact z.elim
  | .ok .brk, z => exact z.elim
  | .ok .cont, z => exact z.elim
theorem pe_methG {pl : Sem Bool} (he : PE X o ta) (hC : MOk X k [] m Ok So) (hr : Room k X.A) (hx : ∀ σ, PassesAt (CV X.prog X.w) X σ (E σ)) (ha : PA X (e :: es) t)
    (hst : starEach (e :: es) X.env = (false, eval e X.env) :: starEach es X.env := by rfl) (hpl : (backTo pos (starEach es X.env)).any (·.1) = false := by rfl)
    (ht : eval (.Call (.Attribute o m apos) (e :: es) [] pos) X.env = (do
      let ov ← eval o X.env
      standAt apos.atName
      let (f, first) ← holding [ov] (getMethod ov m pl)
      callWith pos f first (backTo pos (starEach (e :: es) X.env)) (backToKw pos (keywordEach [] X.env))) := by rfl) :
    PE X (.Call (.Attribute o m apos) (e :: es) [] pos) (tMethG Ok So m 0 E ta t tNil) := by
  refine ⟨fun pins s σ H Q I h => ?_⟩
  refine PySem.W.methodCall_KW (pl := pl) (thn (he.run pins s σ H _ I h) fun u s1 ⟨x, H1, I1, rx, a, C, dx, fs, ex, ea, l, ok, q⟩ => ?_) ht
  subst ex
  cases rx
  obtain ⟨c, g, hm, F⟩ := hC C ok
  refine getmeth_ok I1 ea c hm l ?_
  refine PySem.W.callWith_K (first := [.ref a]) (h₀ := X.base) I.ok.mod.kin hm.kp (thn (ha.run pos pins s1 σ H1 _ I1 q) fun us s2 ⟨vs, H2, I2, r, q2⟩ => ⟨I2.kIn, ?_⟩) hst hpl
  exact run_methG (ks := []) (ws := []) F hr (hx σ) I2 r .nil rfl q2.2
theorem pe_methG0 {pl : Sem Bool} (he : PE X o ta) (hC : MOk X k [] m Ok So) (hr : Room k X.A) (hx : ∀ σ, PassesAt (CV X.prog X.w) X σ (E σ))
    (ht : eval (.Call (.Attribute o m apos) [] [] pos) X.env = (do
      let ov ← eval o X.env
      standAt apos.atName
      let (f, first) ← holding [ov] (getMethod ov m pl)
      callWith pos f first (backTo pos (starEach [] X.env)) (backToKw pos (keywordEach [] X.env))) := by rfl) :
    PE X (.Call (.Attribute o m apos) [] [] pos) (tMethG Ok So m 0 E ta tNil tNil) := by
  refine ⟨fun pins s σ H Q I h => ?_⟩
  refine PySem.W.methodCall_KW (pl := pl) (thn (he.run pins s σ H _ I h) fun u s1 ⟨x, H1, I1, rx, a, C, dx, fs, ex, ea, l, ok, q⟩ => ?_) ht
  subst ex
  cases rx
  obtain ⟨c, g, hm, F⟩ := hC C ok
  refine getmeth_ok I1 ea c hm l ?_
  exact PySem.W.callWith_K0 (first := [.ref a]) I1.kIn hm.kp (run_methG (ks := []) (us := []) (ws := []) F hr (hx σ) I1 .nil .nil rfl q.2)
theorem pe_methGK {pl : Sem Bool} (he : PE X o ta) (hC : MOk X k ks m Ok So) (hr : Room k X.A) (hx : ∀ σ, PassesAt (CV X.prog X.w) X σ (E σ)) (ha : PA X (e :: es) t) (hkw : PK X kws tk)
    (hall : (backToKw pos (keywordEach kws X.env)).all (·.1.isSome) = true := by rfl) (hks : (backToKw pos (keywordEach kws X.env)).filterMap (·.1) = ks := by rfl)
    (hst : starEach (e :: es) X.env = (false, eval e X.env) :: starEach es X.env := by rfl) (hpl : ((backTo pos (starEach (e :: es) X.env)).any (·.1) || (backToKw pos (keywordEach kws X.env)).any (·.1.isNone)) = false := by rfl)
    (ht : eval (.Call (.Attribute o m apos) (e :: es) kws pos) X.env = (do
      let ov ← eval o X.env
      standAt apos.atName
      let (f, first) ← holding [ov] (getMethod ov m pl)
      callWith pos f first (backTo pos (starEach (e :: es) X.env)) (backToKw pos (keywordEach kws X.env))) := by rfl) :
    PE X (.Call (.Attribute o m apos) (e :: es) kws pos) (tMethG Ok So m ks.length E ta t tk) := by
  refine ⟨fun pins s σ H Q I h => ?_⟩
  refine PySem.W.methodCall_KW (pl := pl) (thn (he.run pins s σ H _ I h) fun u s1 ⟨x, H1, I1, rx, a, C, dx, fs, ex, ea, l, ok, q⟩ => ?_) ht
  subst ex
  cases rx
  obtain ⟨c, g, hm, F⟩ := hC C ok
  refine getmeth_ok I1 ea c hm l ?_
  refine PySem.W.callWith_KW (first := [.ref a]) (h₀ := X.base) I.ok.mod.kin hm.kp hall (thn (ha.run pos pins s1 σ H1 _ I1 q) fun us s2 ⟨vs, H2, I2, r, q⟩ => ?_) hpl hst
  refine thn (hkw.run pos pins s2 σ H2 _ I2 q) fun ws s3 ⟨zs, H3, I3, rz, l3, q3⟩ => ⟨I3.kIn, ?_⟩
  rw [hks]
  exact run_methG F hr (hx σ) I3 r rz l3 q3
theorem pe_methGK0 {pl : Sem Bool} (he : PE X o ta) (hC : MOk X k ks m Ok So) (hr : Room k X.A) (hx : ∀ σ, PassesAt (CV X.prog X.w) X σ (E σ)) (hkw : PK X kws tk)
    (hall : (backToKw pos (keywordEach kws X.env)).all (·.1.isSome) = true := by rfl) (hks : (backToKw pos (keywordEach kws X.env)).filterMap (·.1) = ks := by rfl)
    (hpl : ((backTo pos (starEach [] X.env)).any (·.1) || (backToKw pos (keywordEach kws X.env)).any (·.1.isNone)) = false := by rfl)
    (ht : eval (.Call (.Attribute o m apos) [] kws pos) X.env = (do
      let ov ← eval o X.env
      standAt apos.atName
      let (f, first) ← holding [ov] (getMethod ov m pl)
      callWith pos f first (backTo pos (starEach [] X.env)) (backToKw pos (keywordEach kws X.env))) := by rfl) :
    PE X (.Call (.Attribute o m apos) [] kws pos) (tMethG Ok So m ks.length E ta tNil tk) := by
  refine ⟨fun pins s σ H Q I h => ?_⟩
  refine PySem.W.methodCall_KW (pl := pl) (thn (he.run pins s σ H _ I h) fun u s1 ⟨x, H1, I1, rx, a, C, dx, fs, ex, ea, l, ok, q⟩ => ?_) ht
  subst ex
  cases rx
  obtain ⟨c, g, hm, F⟩ := hC C ok
  refine getmeth_ok I1 ea c hm l ?_
  refine PySem.W.callWith_KW0 (first := [.ref a]) (h₀ := X.base) I.ok.mod.kin hm.kp hall ?_ hpl
  refine thn (hkw.run pos pins s1 σ H1 _ I1 q) fun ws s3 ⟨zs, H3, I3, rz, l3, q3⟩ => ⟨I3.kIn, ?_⟩
  rw [hks]
  exact run_methG (us := []) (vs := []) F hr (hx σ) I3 .nil rz l3 q3
end
/-- positional values (self ahead), keywords' values, the cells -/
abbrev Fs2 := List D → List D → List Ob → Fr
def spC (K : PySem.W.Frag) (f : Fs2) : SpK := fun vs zs H Q E => ∃ (F : Hp) (al : List Addr) (st : List Ob) (ds es : List D), RelG K F al H st ∧ DatL K al F ds vs ∧ DatL K al F es zs ∧ FrW K F al H Q E (f ds es st)
def apK (f : Fs2) (ds es : List D) : M Va := fun s => match f ds es s.st with
  | .ok v st => .ok v { s with st := st }
  | .ex x st => .ex x { s with st := st }
  | .no => .no
def clsAt (d : D) (s : S) : Option (Str × List (Str × D)) := match d with
  | .ins c fs => some (c, fs)
  | .ref i => (match s.st[i]? with
    | some (.ins c fs) => some (c, fs)
    | _ => none)
  | _ => none
abbrev MTab := List (Str × Fs2)
def evMeth (tbl : MTab) (m : Str) (eo : M Va) (args : M (List D)) (n : Nat) (kws : M (List D)) : M Va := (eo >>= esc) >>= fun d s0 => match clsAt d s0 with
  | some (c, fs) => (match tbl.lookup c, fs.lookup m with
    | some f, none => (args >>= fun ds => kws >>= fun es => fun s => if es.length = n then apK f (d :: ds) es s else .no) s0
    | _, _ => .no)
  | none => .no
/-- the class c has the method m, which does f -/
def MthP (P : Program) (w : World) (K : PySem.W.Frag) (mg : Str → Option Value) (base : Heap) (k : Nat) (c m : Str) (ks : List Str) (f : Fs2) : Prop := Cls K (He.ga K c) ∧ ∃ g, Meth K (He.ga K c) m g ∧ CbG P w K mg base k g ks (spC K f)
theorem MthP.mono {P : Program} {w : World} {K : PySem.W.Frag} {mg : Str → Option Value} {base : Heap} {j k : Nat} {c m : Str} {ks : List Str} {f : Fs2} (h : MthP P w K mg base j c m ks f) (hk : j ≤ k) : MthP P w K mg base k c m ks f := by
  obtain ⟨h1, g, h2, h3⟩ := h
  exact ⟨h1, g, h2, h3.mono hk⟩
def OkT (K : PySem.W.Frag) (tbl : MTab) (C : Addr) : Prop := ∃ c f, C = He.ga K c ∧ tbl.lookup c = some f
def SoT (K : PySem.W.Frag) (tbl : MTab) (C : Addr) : SpK := fun vs zs H Q E => ∃ c f, C = He.ga K c ∧ tbl.lookup c = some f ∧ spC K f vs zs H Q E
section
variable {X : Cx} {W : Wx} {k : Nat} {ks : List Str} {m : Str} {tbl : MTab} {K : PySem.W.Frag}
theorem mok_of (h : ∀ c f, tbl.lookup c = some f → MthP X.prog X.w X.K X.mg X.base k c m ks f) : MOk X k ks m (OkT X.K tbl) (SoT X.K tbl) := by
  rintro C ⟨c, f, rfl, hl⟩
  obtain ⟨h1, g, h2, h3⟩ := h c f hl
  refine ⟨h1, g, h2, fun A outer s H us ws vs zs Q E hr e0 r rz l ⟨c', f', ec, hl', q⟩ => ?_⟩
  obtain ⟨_, g', h2', h3'⟩ := h c' f' hl'
  have e1 := h2.at_
  rw [ec, h2'.at_] at e1
  cases e1
  exact h3' A outer s H us ws vs zs Q E hr e0 r rz l q
theorem sat_fr {E : Ent} {σ : L2.St} {s : S} {F H : Hp} {al : List Addr} (rel : Rel K E F al H σ s) (r : Fr) : Sat K E W (VR K E σ) F al H σ s (fun Q => FrW K F al H Q (WE W σ) r) (match r with
    | .ok v st => .ok v { s with st := st }
    | .ex x st => .ex x { s with st := st }
    | .no => .no) := by
  cases r with
  | no => exact True.intro
  | ok v st =>
    intro Q hQ w F' al' H' g x vf
    obtain ⟨r2, s2⟩ := rel.call g x
    refine hQ w F' al' H' r2 s2 ?_
    cases v with
    | im d => exact vf
    | pl i => exact vf.elim
    | fr o =>
      obtain ⟨a, ho, e, h1, h2, h3, h4, h5⟩ := vf
      obtain ⟨_, f2, f3⟩ := rel.fresh h5
      exact ⟨a, ho, e, h1, h3, h4, fun t => t.elim h2 fun t => f2 (.inr t), f3, h5⟩
  | ex x st =>
    intro Q hQ cls dd F' al' H' g ext q
    obtain ⟨r2, s2⟩ := rel.call g ext
    exact hQ cls dd F' al' H' r2 s2 q
theorem sat_apK {E : Ent} {σ : L2.St} {s : S} {F H : Hp} {al : List Addr} {f : Fs2} {ds es : List D} {vs zs : List V} (rel : Rel K E F al H σ s) (d : DatL K al F ds vs) (de : DatL K al F es zs) : Sat K E W (VR K E σ) F al H σ s (fun Q => spC K f vs zs H Q (WE W σ)) (apK f ds es s) :=
  (sat_fr (W := W) rel (f ds es s.st)).imp fun Q h => ⟨F, al, s.st, ds, es, rel.g, d, de, h⟩
theorem clsAt_ok {E : Ent} {σ : L2.St} {s : S} {F H : Hp} {al : List Addr} {d : D} {w : V} {c : Str} {fs : List (Str × D)} (rel : Rel K E F al H σ s) (v : Dat K al F d w) (h : clsAt d s = some (c, fs)) : ∃ a dx vs, w = .ref a ∧ H a = some (.ins (He.ga K c) dx vs) ∧ DatF K al F fs vs := by
  unfold clsAt at h
  split at h
  · cases h
    cases v with
    | ins q l => exact ⟨_, _, _, rfl, rel.sub.here q (fun z => z), l⟩
  · rename_i i
    split at h
    · rename_i c' fs' he
      cases h
      cases v with
      | ref g =>
        obtain ⟨_, ho, h1, h2⟩ := rel.cell i _ _ g he
        cases ho <;> first | exact h2.elim | skip
        obtain ⟨rfl, q⟩ := (show _ ∧ _ from h2)
        exact ⟨_, _, _, rfl, h1, q⟩
    · cases h
  · cases h
theorem good_meth {n : Nat} {ta : TE} {t tk : TA} {eo : M Va} {args kws : M (List D)} (go : GoodE K W ta eo) (ga : GoodA K W t args) (gk : GoodA K W tk kws) : GoodE K W (tMethG (OkT K tbl) (SoT K tbl) m n (WE W) ta t tk) (evMeth tbl m eo args n kws) := fun E F al H σ s rel => by
  refine Sat.bind (u := fun x H1 Q => ∃ a C dx fs, x = .ref a ∧ H1 a = some (.ins C dx fs) ∧ fs.lookup m = none ∧ OkT K tbl C ∧ t σ H1 fun vs H2 => tk σ H2 fun zs H3 => zs.length = n ∧ SoT K tbl C (x :: vs) zs H3 Q (WE W σ)) VR.low (go E F al H σ s rel).esc fun d s1 w F1 al1 H1 _ rel1 st1 v1 => ?_
  have v1 : Dat K al1 F1 d w := v1
  cases hc : clsAt d s1 with
  | none => simp only [hc]; exact True.intro
  | some r =>
    obtain ⟨c, fs⟩ := r
    obtain ⟨a, dx, vs, e, h1, h2⟩ := clsAt_ok rel1 v1 hc
    subst e
    simp only [hc]
    cases hl : tbl.lookup c with
    | none => exact True.intro
    | some f =>
      cases hm : fs.lookup m with
      | some y => exact True.intro
      | none =>
        have hn : vs.lookup m = none := by
          rcases DatF.look h2 m with ⟨_, _, e, _⟩ | ⟨_, e⟩
          · rw [hm] at e; cases e
          · exact e
        dsimp only
        have q := Sat.bind (W := W) (u := fun us H2 Q => tk σ H2 fun zs H3 => zs.length = n ∧ SoT K tbl (He.ga K c) (.ref a :: us) zs H3 Q (WE W σ)) (VR.low (K := K) (E := E) (σ := σ)) (ga E F1 al1 H1 σ s1 rel1) (f := fun ds => kws >>= fun es => fun s => if es.length = n then apK f (d :: ds) es s else .no) fun ds s2 us F2 al2 H2 _ rel2 st2 v2 => ?_
        · exact q.imp fun Q z => ⟨a, _, dx, vs, rfl, h1, hn, ⟨c, f, rfl, hl⟩, z⟩
        · refine Sat.bind (u := fun zs H3 Q => zs.length = n ∧ SoT K tbl (He.ga K c) (.ref a :: us) zs H3 Q (WE W σ)) VR.low (gk E F2 al2 H2 σ s2 rel2) fun es s3 zs F3 al3 H3 _ rel3 st3 v3 => ?_
          have v3 : DatL K al3 F3 es zs := v3
          show Sat K E W (VR K E σ) F3 al3 H3 σ s3 _ (if es.length = n then apK f (d :: ds) es s3 else .no)
          by_cases hl2 : es.length = n
          · rw [if_pos hl2]
            have dd : DatL K al3 F3 (d :: ds) (.ref a :: us) := .cons ((v1.mono st2.gr).mono st3.gr) (DatL.mono st3.gr v2)
            exact (sat_apK rel3 dd v3).imp fun Q z => ⟨by rw [← v3.length]; exact hl2, c, f, rfl, hl, z⟩
          · rw [if_neg hl2]; exact True.intro
end
section
variable {X : Cx} {W : Wx} {k : Nat} {ks : List Str} {m : Str} {tbl : MTab} {K : PySem.W.Frag} {apos pos : Pos} {o e : Expr} {es : List Expr} {kws : List Keyword} {ta : TE} {t tk : TA} {eo : M Va} {args mk : M (List D)}
theorem se_meth {pl : Sem Bool} (ho : SE X K W o ta eo) (h : ∀ c f, tbl.lookup c = some f → MthP X.prog X.w K X.mg X.base k c m [] f) (hr : Room k X.A) (hx : ∀ σ, PassesAt (CV X.prog X.w) X σ (WE W σ)) (ha : SA X K W (e :: es) t args)
    (hst : starEach (e :: es) X.env = (false, eval e X.env) :: starEach es X.env := by rfl) (hpl : (backTo pos (starEach es X.env)).any (·.1) = false := by rfl)
    (ht : eval (.Call (.Attribute o m apos) (e :: es) [] pos) X.env = (do
      let ov ← eval o X.env
      standAt apos.atName
      let (f, first) ← holding [ov] (getMethod ov m pl)
      callWith pos f first (backTo pos (starEach (e :: es) X.env)) (backToKw pos (keywordEach [] X.env))) := by rfl) :
    SE X K W (.Call (.Attribute o m apos) (e :: es) [] pos) (tMethG (OkT K tbl) (SoT K tbl) m 0 (WE W) ta t tNil) (evMeth tbl m eo args 0 evNil) := by
  obtain ⟨rfl, po, go⟩ := ho
  obtain ⟨_, pa, ga⟩ := ha
  exact ⟨rfl, pe_methG (pl := pl) po (mok_of h) hr hx pa hst hpl ht, good_meth go ga (sa_nil (X := X) (W := W)).2.2⟩
theorem se_meth0 {pl : Sem Bool} (ho : SE X K W o ta eo) (h : ∀ c f, tbl.lookup c = some f → MthP X.prog X.w K X.mg X.base k c m [] f) (hr : Room k X.A) (hx : ∀ σ, PassesAt (CV X.prog X.w) X σ (WE W σ))
    (ht : eval (.Call (.Attribute o m apos) [] [] pos) X.env = (do
      let ov ← eval o X.env
      standAt apos.atName
      let (f, first) ← holding [ov] (getMethod ov m pl)
      callWith pos f first (backTo pos (starEach [] X.env)) (backToKw pos (keywordEach [] X.env))) := by rfl) :
    SE X K W (.Call (.Attribute o m apos) [] [] pos) (tMethG (OkT K tbl) (SoT K tbl) m 0 (WE W) ta tNil tNil) (evMeth tbl m eo evNil 0 evNil) := by
  obtain ⟨rfl, po, go⟩ := ho
  exact ⟨rfl, pe_methG0 (pl := pl) po (mok_of h) hr hx ht, good_meth go (sa_nil (X := X) (W := W)).2.2 (sa_nil (X := X) (W := W)).2.2⟩
theorem se_methK {pl : Sem Bool} (ho : SE X K W o ta eo) (h : ∀ c f, tbl.lookup c = some f → MthP X.prog X.w K X.mg X.base k c m ks f) (hr : Room k X.A) (hx : ∀ σ, PassesAt (CV X.prog X.w) X σ (WE W σ)) (ha : SA X K W (e :: es) t args) (hkw : SK X K W kws tk mk)
    (hall : (backToKw pos (keywordEach kws X.env)).all (·.1.isSome) = true := by rfl) (hks : (backToKw pos (keywordEach kws X.env)).filterMap (·.1) = ks := by rfl)
    (hst : starEach (e :: es) X.env = (false, eval e X.env) :: starEach es X.env := by rfl) (hpl : ((backTo pos (starEach (e :: es) X.env)).any (·.1) || (backToKw pos (keywordEach kws X.env)).any (·.1.isNone)) = false := by rfl)
    (ht : eval (.Call (.Attribute o m apos) (e :: es) kws pos) X.env = (do
      let ov ← eval o X.env
      standAt apos.atName
      let (f, first) ← holding [ov] (getMethod ov m pl)
      callWith pos f first (backTo pos (starEach (e :: es) X.env)) (backToKw pos (keywordEach kws X.env))) := by rfl) :
    SE X K W (.Call (.Attribute o m apos) (e :: es) kws pos) (tMethG (OkT K tbl) (SoT K tbl) m ks.length (WE W) ta t tk) (evMeth tbl m eo args ks.length mk) := by
  obtain ⟨rfl, po, go⟩ := ho
  obtain ⟨_, pa, ga⟩ := ha
  obtain ⟨_, pk, gk⟩ := hkw
  exact ⟨rfl, pe_methGK (pl := pl) po (mok_of h) hr hx pa pk hall hks hst hpl ht, good_meth go ga gk⟩
theorem se_methK0 {pl : Sem Bool} (ho : SE X K W o ta eo) (h : ∀ c f, tbl.lookup c = some f → MthP X.prog X.w K X.mg X.base k c m ks f) (hr : Room k X.A) (hx : ∀ σ, PassesAt (CV X.prog X.w) X σ (WE W σ)) (hkw : SK X K W kws tk mk)
    (hall : (backToKw pos (keywordEach kws X.env)).all (·.1.isSome) = true := by rfl) (hks : (backToKw pos (keywordEach kws X.env)).filterMap (·.1) = ks := by rfl)
    (hpl : ((backTo pos (starEach [] X.env)).any (·.1) || (backToKw pos (keywordEach kws X.env)).any (·.1.isNone)) = false := by rfl)
    (ht : eval (.Call (.Attribute o m apos) [] kws pos) X.env = (do
      let ov ← eval o X.env
      standAt apos.atName
      let (f, first) ← holding [ov] (getMethod ov m pl)
      callWith pos f first (backTo pos (starEach [] X.env)) (backToKw pos (keywordEach kws X.env))) := by rfl) :
    SE X K W (.Call (.Attribute o m apos) [] kws pos) (tMethG (OkT K tbl) (SoT K tbl) m ks.length (WE W) ta tNil tk) (evMeth tbl m eo evNil ks.length mk) := by
  obtain ⟨rfl, po, go⟩ := ho
  obtain ⟨_, pk, gk⟩ := hkw
  exact ⟨rfl, pe_methGK0 (pl := pl) po (mok_of h) hr hx pk hall hks hpl ht, good_meth go (sa_nil (X := X) (W := W)).2.2 gk⟩
end
end VI
end
section
set_option Elab.async false
set_option linter.all false
set_option maxRecDepth 100000
set_option maxHeartbeats 2000000
/-! V23: what a law with own classes and constants stands on; constants as values. -/
namespace VI
open PySem PySem.Spec L2

/-! ### what is looked at -/
/-- a def in a class body that says super(): its closure has the one name __class__ -/
abbrev FnC : Type := Option (Str × Str × Arguments × FuncBody × Scope × Addr × List Str × Addr)
def fnC (K : PySem.W.Frag) (p : Str × Option Str) : FnC := match K.lookup (He.fAd K p) with
  | some o => (match o.data with
    | .func g => some (g.name, g.qualname, g.params, g.body, g.scope, g.globals, g.closure.map Prod.fst, g.builtins)
    | _ => none)
  | _ => none
def valC (d : He.DefD) : FnC := some (d.name, d.qual, d.params, .stmts d.body, d.scope, mainGlobals, ["__class__"], builtinsNs)
/-- the cell of such a def -/
def ccAt (K : PySem.W.Frag) (p : Str × Option Str) : Addr := match K.lookup (He.fAd K p) with
  | some o => (match o.data with
    | .func g => (match g.closure with
      | [q] => q.2
      | _ => 0)
    | _ => 0)
  | _ => 0
/-- the cell holds the class C -/
def ccB (K : PySem.W.Frag) (cc C : Addr) : Bool := match K.lookup cc with
  | some o => (match o.data with
    | .cell (some (.ref a)) => decide (a = C)
    | _ => false)
  | _ => false
theorem ccB_ok {K : PySem.W.Frag} {cc C : Addr} (h : ccB K cc C = true) : ∃ o, K.lookup cc = some o ∧ o.data = .cell (some (.ref C)) := by
  unfold ccB at h
  split at h
  · rename_i o e
    refine ⟨o, e, ?_⟩
    split at h
    · rename_i a e2
      rw [e2, of_decide_eq_true h]
    · cases h
  · cases h
/-- FunD for a def with the closure [(__class__, cc)] -/
structure FunC (K : PySem.W.Frag) (x q : Str) (ar : Arguments) (body : List Stmt) (sc : Scope) (dvs : List V) (kws : List (Str × V)) (cc f : Addr) (fd : FuncData) : Prop where
  has : ∃ (oc : Value) (od : Option Addr) (dV kV doc pm : Value) (an : Option Addr) (cdv ct : Value) (osl : Array (Option Value)),
    fd = PySem.W.ksFn x q ar body sc dV kV doc pm an cdv ct cc ∧ K.lookup f = some ⟨oc, od, .func fd, osl⟩ ∧ PySem.W.codeIn K cdv q = true ∧ DflV K dV dvs ∧ KwdV K kV kws
  keep : PySem.W.keepIn K (.ref f) = true
theorem funC_of {K : PySem.W.Frag} {d : He.DefD} (e : fnC K d.at_ = valC d) (c : d.ok K = true) : ∃ fd, FunC K d.name d.qual d.params d.body d.scope (d.dvs K) (d.kws K) (ccAt K d.at_) (He.fAd K d.at_) fd := by
  obtain ⟨kp, c2⟩ := He.ba c
  unfold fnC valC at e
  unfold ccAt
  cases q : K.lookup (He.fAd K d.at_) with
  | none => rw [q] at e; cases e
  | some o =>
    obtain ⟨oc, od, dt, osl⟩ := o
    rw [q] at c2 e
    cases dt with
    | func fd =>
      obtain ⟨n1, n2, n3, n4, n5, n6, n7, n8, n9, n10, n11, n12, n13, n14, n15⟩ := fd
      dsimp only at e c2 ⊢
      simp only [Option.some.injEq, Prod.mk.injEq] at e
      obtain ⟨h1, h2, h3, h4, h5, h6, h7, h8⟩ := e
      obtain ⟨k1, k2⟩ := He.ba c2
      obtain ⟨k3, k4⟩ := He.ba k2
      match n7, h7, q with
      | [(y, cc)], h7, q =>
        have ey : y = "__class__" := by simpa using h7
        subst ey h1 h2 h3 h4 h5 h6 h8
        exact ⟨_, ⟨oc, od, n8, n9, n10, n11, n12, n13, n14, osl, rfl, q, k1, He.dflB_ok k3, He.kwdB_ok k4⟩, kp⟩
    | _ => cases e

/-! ### the law's lists -/
/-- defs, defs with super(), global names, texts and nums of the top, facts, tables -/
structure EnvP where
  fn : List He.DefD := []
  fc : List He.DefD := []
  gs : List Str := []
  ss : List (Str × Str) := []
  is_ : List (Str × Int) := []
  fa : List He.Fa := []
  fx : List (PySem.W.Frag → Bool) := []
  ts : List He.Tab := []
def EnvP.fas (p : EnvP) : List He.Fa := (faOf p.gs ++ (p.ss.map fun q => .str q.1 q.2)) ++ ((p.is_.map fun q => .int q.1 q.2) ++ p.fa)
abbrev AlV : Type := He.AlT × Bool × List FnC
def obsV (p : EnvP) (K : PySem.W.Frag) : AlV := (He.obsT p.fas p.fn p.ts K, (p.fx.all fun f => f K) && p.fc.all fun d => d.ok K, p.fc.map fun d => fnC K d.at_)
def valV (p : EnvP) (w : World) : AlV := (He.valT p.fn p.ts w, true, p.fc.map valC)
def obsVG (n : Nat) (p : EnvP) (g : Addr → Option Obj) : AlV := obsV p (He.frG g (cStatics :: He.asD g n))
def hookV (n : Nat) (p : EnvP) : PySem.W.Hook where
  α := AlV
  obs := fun s => obsVG n p s.heap.get?
  val := valV p
  says := fun w h => ∃ K : PySem.W.Frag, K.In h ∧ obsV p K = valV p w
  of := fun w s e => ⟨_, He.frG_in, e⟩
  keeps := fun _ _ _ ⟨K, a, c⟩ k => ⟨K, PySem.W.Frag.In.keeps a k, c⟩
theorem obsVG_eq {n : Nat} {p : EnvP} {g : Addr → Option Obj} {s : Shared} (h : ∀ a, g a = s.heap.get? a) : obsVG n p g = (hookV n p).obs s := by
  cases (funext h : g = s.heap.get?)
  rfl
/-- what a law's defs stand on -/
structure EnvW (K : PySem.W.Frag) (w : World) (mg : Str → Option Value) (p : EnvP) : Prop extends EnvV K mg p.fn p.gs where
  txts : ∀ q ∈ p.ss, ∃ t, mg q.1 = some (.str q.2 t)
  nums : ∀ q ∈ p.is_, ∃ t, mg q.1 = some (.int q.2 t)
  facts : ∀ f ∈ p.fa, f.ok K = true
  extra : ∀ f ∈ p.fx, f K = true
  tabs : ∀ (i : Nat) (t : He.Tab), p.ts[i]? = some t → ∃ es n, KDict K w (t.1 K) es n
  supr : ∀ (i : Nat) (d : He.DefD), p.fc[i]? = some d → ∃ fd, FunC K d.name d.qual d.params d.body d.scope (d.dvs K) (d.kws K) (ccAt K d.at_) (He.fAd K d.at_) fd
theorem EnvW.of {K : PySem.W.Frag} {w : World} {h : Heap} {mg : Str → Option Value} {p : EnvP} (X : K.In h) (G : h.Ns mainGlobals mg) (c : obsV p K = valV p w) : EnvW K w mg p := by
  have ct : He.SaysT p.fas p.fn p.ts w K := congrArg (fun z : AlV => z.1) c
  have c0 := ct.d
  have cb := He.ba (show ((p.fx.all fun f => f K) && p.fc.all fun d => d.ok K) = true from congrArg (fun z : AlV => z.2.1) c)
  have cf : p.fc.map (fun d => fnC K d.at_) = p.fc.map valC := congrArg (fun z : AlV => z.2.2) c
  have ca := (He.ba (show ((p.fas.all fun f => f.ok K) && p.fn.all fun d => d.ok K) = true from congrArg (fun z : He.AlD => z.1) c0)).1
  have cl := List.all_eq_true.mp ca
  have c1 : ∀ f ∈ faOf p.gs, f.ok K = true := fun f hf => cl f (List.mem_append_left _ (List.mem_append_left _ hf))
  refine ⟨⟨fun x hx => He.free_ok X G (c1 _ (List.mem_append_right _ (List.mem_map.mpr ⟨x, hx, rfl⟩))), fun x hx => He.glo_ok X G (c1 _ (List.mem_append_left _ (List.mem_map.mpr ⟨x, hx, rfl⟩))), fun i d hd => c0.def_ i hd⟩,
    fun q hq => He.str_ok X G (cl _ (List.mem_append_left _ (List.mem_append_right _ (List.mem_map.mpr ⟨q, hq, rfl⟩)))), fun q hq => He.int_ok X G (cl _ (List.mem_append_right _ (List.mem_append_left _ (List.mem_map.mpr ⟨q, hq, rfl⟩)))),
    fun f hf => cl _ (List.mem_append_right _ (List.mem_append_right _ hf)), List.all_eq_true.mp cb.1, fun i t ht => ct.tab i ht, fun i d hd => ?_⟩
  have e2 : (p.fc.map fun d => fnC K d.at_)[i]? = (p.fc.map valC)[i]? := by rw [cf]
  rw [List.getElem?_map, List.getElem?_map, hd] at e2
  exact funC_of (Option.some.inj e2) (List.all_eq_true.mp cb.2 d (List.mem_of_getElem? hd))
section
variable {K : PySem.W.Frag} {w : World} {mg : Str → Option Value} {p : EnvP} (e : EnvW K w mg p)
include e
theorem EnvW.str (i : Nat) {x z : Str} (h : p.ss[i]? = some (x, z) := by rfl) : ∃ t, mg x = some (.str z t) := e.txts _ (List.mem_of_getElem? h)
theorem EnvW.int (i : Nat) {x : Str} {n : Int} (h : p.is_[i]? = some (x, n) := by rfl) : ∃ t, mg x = some (.int n t) := e.nums _ (List.mem_of_getElem? h)
theorem EnvW.fact (i : Nat) {f : He.Fa} (h : p.fa[i]? = some f := by rfl) : f.ok K = true := e.facts _ (List.mem_of_getElem? h)
theorem EnvW.ext (i : Nat) {f : PySem.W.Frag → Bool} (h : p.fx[i]? = some f := by rfl) : f K = true := e.extra _ (List.mem_of_getElem? h)
end

/-! ### constants as values -/
section
variable {X : Cx} {W : Wx} {K : PySem.W.Frag}
theorem se_gstr {x z : Str} {pos : Pos} (hm : ∃ t, X.mg x = some (.str z t)) (hK : X.K = K := by rfl) (hg : Gl X x := by rfl) (hd : (x == ("__debug__" : Str)) = false := by decide) : SE X K W (.Name x pos) (tC (.str z)) (evC (.str z)) := by
  obtain ⟨t, hm⟩ := hm
  exact ⟨hK, pe_glob hg hm ⟨t, rfl⟩ hd, good_c fun _ _ => .str z⟩
theorem se_gint {x : Str} {n : Int} {pos : Pos} (hm : ∃ t, X.mg x = some (.int n t)) (hK : X.K = K := by rfl) (hg : Gl X x := by rfl) (hd : (x == ("__debug__" : Str)) = false := by decide) : SE X K W (.Name x pos) (tC (.int n)) (evC (.int n)) := by
  obtain ⟨t, hm⟩ := hm
  exact ⟨hK, pe_glob hg hm ⟨t, rfl⟩ hd, good_c fun _ _ => .int n⟩
/-- a tuple of texts and numbers at the top -/
def dvD : He.Dv → D
  | .bl b => .bl b
  | .int i => .int i
  | .str x => .str x
  | .ty n => .ty n
  | _ => .non
def dvFlat : He.Dv → Bool
  | .non => true
  | .bl _ => true
  | .int _ => true
  | .str _ => true
  | .ty _ => true
  | _ => false
theorem dv_dat {al : List Addr} {F : Hp} : ∀ {vs : List He.Dv}, vs.all dvFlat = true → DatL K al F (vs.map dvD) (vs.map (He.Dv.v K))
  | [], _ => .nil
  | v :: r, h => by
    obtain ⟨h1, h2⟩ := Bool.and_eq_true_iff.mp (show (dvFlat v && r.all dvFlat) = true from h)
    refine .cons ?_ (dv_dat h2)
    cases v with
    | non => exact .non
    | bl b => exact .bl b
    | int i => exact .int i
    | str x => exact .str x
    | ty n => exact .ty n
    | _ => cases h1
theorem se_gtup {x : Str} {vs : List He.Dv} {pos : Pos} (hm : X.mg x = some (.ref (He.ga K x))) (ht : He.tupB K x vs = true) (hf : vs.all dvFlat = true := by rfl) (hl : vs.length ≤ sizeLine := by rw [sizeLine_eq]; decide) (hK : X.K = K := by rfl) (hg : Gl X x := by rfl)
    (hd : (x == ("__debug__" : Str)) = false := by decide) : SE X K W (.Name x pos) (tC (.ref (He.ga K x))) (evC (.tz (vs.map dvD))) :=
  ⟨hK, pe_glob hg hm rfl hd, good_c fun _ F => .tz (He.tupB_ok ht F) (dv_dat hf) (by rw [List.length_map]; exact hl)⟩
end
end VI
end
section
set_option Elab.async false
set_option linter.all false
set_option maxRecDepth 100000
set_option maxHeartbeats 2000000
/-! V24: super().__init__(..) of an own class above. -/
namespace VI
open PySem PySem.Spec PyProof.Rows L2 NdefX

/-! ### blocks that are run where the running code is known -/
structure PAt (X : Cx) (c : Code) (l : List Stmt) (t : TS) : Prop where
  go : ∀ (pins : List (Addr × Obj)) (s : Shared) (σ : L2.St) (H : Hp) (D : Ends), Inv X pins σ H s → t D σ H → _root_.PySem.wpAt (model X.prog X.w) X.A c (execs l X.env) (SP X pins D) X.xe s
structure P1At (X : Cx) (c : Code) (st : Stmt) (t : TS) : Prop where
  go : ∀ (pins : List (Addr × Obj)) (s : Shared) (σ : L2.St) (H : Hp) (D : Ends), Inv X pins σ H s → t D σ H → _root_.PySem.wpAt (model X.prog X.w) X.A c (exec st X.env) (SP X pins D) X.xe s
section
variable {X : Cx} {c : Code} {st : Stmt} {l : List Stmt} {t u : TS}
theorem pat_all (h : PSs X l t) : PAt X c l t := ⟨fun pins s σ H D I q => _root_.PySem.wpAt_of_wpAny (h.run pins s σ H D I q)⟩
theorem p1_all (h : PS X st t) : P1At X c st t := ⟨fun pins s σ H D I q => _root_.PySem.wpAt_of_wpAny (h.run pins s σ H D I q)⟩
theorem pat_cons (h : P1At X c st t) (k : PAt X c l u) : PAt X c (st :: l) (tSeq t u) := by
  refine ⟨fun pins s σ H D I q => PySem.ks_wpAt_execs_cons ?_⟩
  refine _root_.PySem.wpAt_mono (h.go pins s σ H { D with nx := u D } I q) (fun f s1 z => ?_) fun _ _ z => z
  cases f with
  | next =>
    obtain ⟨σ1, H1, I1, z⟩ := z
    exact k.go pins s1 σ1 H1 D I1 z
  | ret v => exact z
  | brk => exact z
  | cont => exact z
theorem pat_one (h : P1At X c st t) : PAt X c [st] t := by
  refine ⟨fun pins s σ H D I q => PySem.ks_wpAt_execs_cons ?_⟩
  refine _root_.PySem.wpAt_mono (h.go pins s σ H D I q) (fun f s1 z => ?_) fun _ _ z => z
  cases f with
  | next => exact _root_.PySem.wpAt_of_wpAny (wpAny_execs_nil z)
  | ret v => exact z
  | brk => exact z
  | cont => exact z
end

/-! ### the def -/
section
variable {P : Program} {w : World} {K : PySem.W.Frag} {mg : Str → Option Value} {base : Heap} {x q : Str} {ar : Arguments} {body : List Stmt} {sc : Scope} {dvs : List V} {kws : List (Str × V)} {cc f C : Addr} {fd : FuncData} {N ps : List Str} {sp : Sp} {CX : CXT} {k : Nat}
abbrev nfS (x q : Str) (ar : Arguments) (body : List Stmt) (sc : Scope) (cc c : Addr) : NF := ⟨x, q, ar, body, sc, [("__class__", cc)], c⟩
theorem one_lookup {y z : Str} {a b : Addr} (h : ([(z, a)] : List (Str × Addr)).lookup y = some b) : y = z ∧ b = a := by
  simp only [List.lookup_cons, List.lookup_nil] at h
  split at h
  · rename_i e
    cases h
    exact ⟨by simpa using e, rfl⟩
  · cases h
theorem funC_ok (F : FunC K x q ar body sc dvs kws cc f fd) (S : NScope N ps ["__class__"] sc) (hC : ccB K cc C = true) (len : ∀ vs H Q E, sp vs H Q E → vs.length = ps.length)
    (hb : ∀ (c : Addr) (A : Around) (outer : List Env) (s : Shared) (H : Hp) (vs : List V) (Q : VK) (E : XK), fd.code = .ref c → Room k (A.deeper (envF (nfS x q ar body sc cc c) f s.heap.objs.size)) → sp vs H Q E →
      ∃ t, PAt (ncx CX P w K mg base N (nfS x q ar body sc cc c) f A outer s H E) (.func body (envF (nfS x q ar body sc cc c) f s.heap.objs.size)) body t ∧ t { nx := fun _ H' => Q .non H', rt := Q } (startF N vs [some (.ref C)]) H) :
    FnOk P w K mg base CX (k + 1) f fd ps sp := by
  obtain ⟨oc, od, dV, kV, doc, pm, an, cdv, ct, osl, rfl, lk, hcd, _, _⟩ := F.has
  obtain ⟨c, rfl⟩ := He.codeIn_ref hcd
  refine ⟨len, fun A outer s H args us vs Q E hr e0 bt r hs => ?_⟩
  have hl := len _ _ _ _ hs
  have kept : ∀ b o, base.get? b = some o → s.heap.get? b = some o := fun b o e => (e0.bs b o e).1
  have KX : K.In s.heap := e0.mod.kin.keeps kept
  obtain ⟨o1, lc, dc⟩ := ccB_ok hC
  have cells : CellsAt (nfS x q ar body sc cc c).cl ["__class__"] [some (.ref C)] s.heap H := by
    have one : s.heap.IsCell cc (some (.ref C)) := ⟨o1, KX _ _ lc, dc⟩
    refine ⟨rfl, fun y a e => ?_, fun y z a e1 e2 => (one_lookup e1).1.trans (one_lookup e2).1.symm, fun i y e => ?_⟩
    · obtain ⟨_, rfl⟩ := one_lookup e
      exact ⟨(e0.bs _ _ (e0.mod.kin _ _ lc)).2, _, one⟩
    · cases i with
      | zero =>
        cases e
        exact ⟨cc, rfl, fun v e2 => by cases e2; exact ⟨.ref C, rfl, one⟩⟩
      | succ i => simp at e
  refine ks_codeAny_call_defAt (fd := PySem.W.ksFn x q ar body sc dV kV doc pm an (.ref c) ct cc) (body := body) (binds := ps.zip us) hr.depth (KX _ _ lk) rfl (e0.mod.nolimit.keeps kept) (PySem.W.codeRec_of KX hcd) rfl bt S.nocell (fun ⟨n, _⟩ hy => S.par n (List.of_mem_zip hy).1) (fun h₁ hns kp => ?_) S.co S.gen S.kind
  obtain ⟨t, ht, hq⟩ := hb c A outer s H vs Q E rfl (hr.deeper _) hs
  have I : Inv (ncx CX P w K mg base N (nfS x q ar body sc cc c) f A outer s H E) [] (startF N vs [some (.ref C)]) H { s with heap := h₁, toks := s.toks + (ps.zip us).length } := inv_startN S hr.hd e0 hl r cells hns kp
  refine _root_.PySem.wpAt_mono (ht.go [] _ (startF N vs [some (.ref C)]) H _ I hq) (fun fl s' z => ?_) fun e s' z => z
  cases fl with
  | ret u =>
    obtain ⟨v, σ', H', J, rv, z⟩ := z
    exact ⟨v, H', J.os, J.bare, J.base, J.hok, rv, z⟩
  | next =>
    obtain ⟨σ', H', J, z⟩ := z
    exact ⟨.non, H', J.os, J.bare, J.base, J.hok, rfl, z⟩
  | brk =>
    obtain ⟨_, _, _, z⟩ := z
    exact z.elim
  | cont =>
    obtain ⟨_, _, _, z⟩ := z
    exact z.elim
end
end VI
end
section
set_option Elab.async false
set_option linter.all false
set_option maxRecDepth 100000
set_option maxHeartbeats 2000000
/-! V25: the statement super().__init__(..). -/
namespace VI
open PySem PySem.Spec PyProof.Rows L2 NdefX

/-- what stands around a body that says super() -/
structure SupX (X : Cx) (x0 : Str) (D : Addr) : Prop where
  func : ∃ (f : Addr) (o : Obj) (fd : FuncData) (ar : Arg), X.env.func = some f ∧ X.K.lookup f = some o ∧ o.data = .func fd ∧ (fd.params.posonlyargs ++ fd.params.args).head? = some ar ∧ ar.arg = x0
  code : ∃ (c : Addr) (o : Obj) (vs : Array Value) (file : Str) (t : Tok), X.env.code = .ref c ∧ X.K.lookup c = some o ∧ o.data = .fields vs ∧ vs[2]? = some (.str file t) ∧ ((X.prog.main.file : Str) == file) = true
  cell : ∃ (c : Addr) (o : Obj), X.env.cells.lookup ("__class__" : Str) = some c ∧ X.K.lookup c = some o ∧ o.data = .cell (some (.ref D))
  top : (X.prog.main.scope.names.lookup ("super" : Str)).isSome = false
  cls : ∃ cd, PySem.W.clsIn X.K D = some cd
  stat : PySem.W.nsIn X.K cStatics "thirdparty.any" = some none
/-- .. of the class of self: the init above D -/
structure SupM (K : PySem.W.Frag) (C D g : Addr) : Prop where
  sub : PySem.W.mroIn K C (.ref D) = some true
  at_ : PySem.W.ks_superIn K C D "__init__" = some (some (.ref g))
  ty : PySem.W.typeIn K (.ref g) = some (.type "function")
  fn : PySem.W.fnIn K g = true
def supMB (K : PySem.W.Frag) (C D g : Addr) : Bool := decide (PySem.W.mroIn K C (.ref D) = some true) && (He.eqO (PySem.W.ks_superIn K C D "__init__") (some (some (.ref g))) && (decide (PySem.W.typeIn K (.ref g) = some (.type "function")) && PySem.W.fnIn K g))
theorem supM_of {K : PySem.W.Frag} {C D g : Addr} (h : supMB K C D g = true) : SupM K C D g := by
  obtain ⟨h1, h⟩ := He.ba h
  obtain ⟨h2, h⟩ := He.ba h
  obtain ⟨h3, h4⟩ := He.ba h
  exact ⟨of_decide_eq_true h1, He.eqO_ok h2, of_decide_eq_true h3, h4⟩
section
variable {M : Model} {A : Around} {c : Code} {env : Env} {s : Shared} {E : Value → Shared → Prop}
theorem at_meth {o : Expr} {name : Str} {apos pos : Pos} {args : List Expr} {kws : List Keyword} {pl : Sem Bool} {Q : Value → Shared → Prop}
    (h : _root_.PySem.wpAt M A c (attributeBase o name env (eval o env)) (fun ov s1 => wpAny M A (getMethod ov name pl) (fun fx s2 => wpAny M A (callWith pos fx.1 fx.2 (backTo pos (starEach args env)) (backToKw pos (keywordEach kws env))) Q E s2) E s1) E s)
    (he : eval (.Call (.Attribute o name apos) args kws pos) env = (do
      let ov ← attributeBase o name env (eval o env)
      standAt apos.atName
      let (f, first) ← holding [ov] (getMethod ov name pl)
      callWith pos f first (backTo pos (starEach args env)) (backToKw pos (keywordEach kws env))) := by rfl) :
    _root_.PySem.wpAt M A c (eval (.Call (.Attribute o name apos) args kws pos) env) Q E s := by
  rw [he]
  refine _root_.PySem.wpAt_bind (_root_.PySem.wpAt_mono h (fun ov s1 h1 => _root_.PySem.wpAt_of_wpAny (wpAny_bind (wpAny_standAt (wpAny_bind (wpAny_holding (wpAny_mono h1 (fun fx s2 h2 => ?_) fun _ _ z => z)))))) fun _ _ z => z)
  exact h2
end
section
variable {X : Cx} {pins : List (Addr × Obj)} {σ : L2.St} {H : Hp} {s : Shared} {a dx C D g : Addr} {us : List (Str × V)} {A : Around} {E : Value → Shared → Prop}
/-- super() alone -/
theorem at_super {body : List Stmt} {x0 attr : Str} {p0 p1 : Pos} {whole : Sem Value} {Q : Value → Shared → Prop} (S : SupX X x0 D) (I : Inv X pins σ H s) (h0 : σ[0]? = some (some (.ref a))) (hN : X.N[0]? = some x0) (ha : H a = some (.ins C dx us)) (hm : PySem.W.mroIn X.K C (.ref D) = some true)
    (hmg : X.mg "super" = none) (hks : X.env.kindOf "super" = some .globalImplicit) (hkc : X.env.kindOf "__class__" = some .free) (hka : X.env.kindOf x0 = some .local) (hat : (attr == ("__class__" : Str)) = false)
    (h : ∀ so s1, Inv X ((so, PySem.W.ks_superObj D a C) :: pins) σ H s1 → Q (.ref so) s1) :
    _root_.PySem.wpAt (model X.prog X.w) X.A (.func body X.env) (attributeBase (.Call (.Name "super" p0) [] [] p1) attr X.env whole) Q E s := by
  obtain ⟨f, of, fd, ar, e1, lf, e2, e3, rfl⟩ := S.func
  obtain ⟨cd, oc, vs, file, t, c1, lc, c2, c3, c4⟩ := S.code
  obtain ⟨cc, o, b1, lo, b2⟩ := S.cell
  obtain ⟨cD, hD⟩ := S.cls
  have KX := I.kIn
  obtain ⟨mA, O, _⟩ := ins_get I.hok ha
  obtain ⟨od, J, _⟩ := O.look
  obtain ⟨oD, hD1, hD2⟩ : ∃ oD, s.heap.get? D = some oD ∧ oD.data = .cls cD := by
    unfold PySem.W.clsIn at hD
    split at hD
    · rename_i z
      cases hD
      exact ⟨_, KX _ _ z, rfl⟩
    · cases hD
  refine ks_wpAt_super_base hks hkc hat e1 (KX _ _ lf) e2 e3 c1 (KX _ _ lc) c2 c3 c4 S.top ?_
  obtain ⟨mb, g1, g2⟩ := I.mod.blt
  refine PySem.W.ks_loadName_global I.ok.kind hks (Calls.loadGlobal_builtin (by rw [I.ok.glob]; exact I.mod.glob.keeps I.bk) hmg (by rw [I.ok.blt]; exact g1.keeps I.bk) ((g2 _ (by decide)).trans (show bootBuiltins "super" = some (.type "super") by kernel_rfl)) ⟨rfl, ?_⟩)
  refine wpAny_loadName_free I.ok.kind hkc b1 ⟨_, KX _ _ lo, b2⟩ ?_
  obtain ⟨m, ns, lk⟩ := I.loc
  obtain ⟨u, ru, ll⟩ := lk 0 ar.arg (.ref a) hN h0 (.inl hka)
  obtain rfl : u = Value.ref a := ru
  have hm2 : m ar.arg = some (.ref a) := by
    rcases ll with ⟨_, z⟩ | ⟨z, _⟩
    · exact z
    · rw [hka] at z; rcases z with z | z <;> cases z
  refine wpAny_loadName_local I.ok.kind hka ns hm2 ?_
  refine ks_wpAny_isType_cls hD1 hD2 ⟨rfl, ?_⟩
  obtain ⟨hh, gg, dd, tt, oo⟩ := s
  refine ks_wpAny_call_super hD1 hD2 J.at_ J.cls (fun z e => ?_) (PySem.W.looks_mroIn KX hm) (fun h' e k => ?_)
  · have q := J.no
    unfold PySem.W.notCls at q
    rw [e] at q
    exact Bool.noConfusion q
  · exact h _ _ (ClX.pin_new I k (Nat.le_refl _) e (fun v z => nomatch z))
/-- its method: a record -/
theorem get_super {so : Addr} {pl : Sem Bool} {Q : Value × List Value → Shared → Prop} (S : PySem.W.nsIn X.K cStatics "thirdparty.any" = some none) (I : Inv X ((so, PySem.W.ks_superObj D a C) :: pins) σ H s) (ha : H a = some (.ins C dx us)) (M : SupM X.K C D g)
    (h : ∀ q s1, Inv X ((q, PySem.W.methodObj (.ref g) (.ref a)) :: (so, PySem.W.ks_superObj D a C) :: pins) σ H s1 → X.base.get? q = none → Q (.ref q, []) s1) : wpAny (model X.prog X.w) A (getMethod (.ref so) "__init__" pl) Q E s := by
  have KX := I.kIn
  obtain ⟨mA, O, _⟩ := ins_get I.hok ha
  obtain ⟨od, J, _⟩ := O.look
  have hs := ClX.pin_at I
  have hM := M.at_
  cases hc : PySem.W.clsIn X.K C with
  | none => unfold PySem.W.ks_superIn at hM; rw [hc] at hM; cases hM
  | some cd =>
    unfold PySem.W.ks_superIn at hM
    rw [hc] at hM
    obtain ⟨of, hof, hfc⟩ : ∃ of, s.heap.get? g = some of ∧ of.cls = .type "function" := by
      have ht : (X.K.lookup g).map (·.cls) = some (.type "function") := M.ty
      cases z : X.K.lookup g with
      | none => rw [z] at ht; cases ht
      | some of => rw [z] at ht; exact ⟨of, KX _ _ z, Option.some.inj ht⟩
    obtain ⟨hh, gg, dd, tt, oo⟩ := s
    refine ks_wpAny_getMethod_super hs (PySem.W.looks_opaque KX S) (l₀ := cd.mro) ?_ rfl KX hM hof hfc (PySem.W.ks_ne KX J hc) (by decide) ?_
    · exact fun A Q E s k q => wpAny_bind ((PySem.W.looks_clsIn KX hc) A _ E s k (wpAny_pure q))
    · exact h _ _ (ClX.met_new I) (ClX.base_none I (Nat.le_refl _))
end
end VI
end
section
set_option Elab.async false
set_option linter.all false
set_option maxRecDepth 100000
set_option maxHeartbeats 2000000
/-! V26: the statement super().__init__(..), as a statement's worth. -/
namespace VI
open PySem PySem.Spec PyProof.Rows L2 NdefX

def tSup (C : Addr) (n : Nat) (sp : SpK) (E : L2.St → XK) (t tk : TA) : TS := fun D σ H => ∃ a dx us, σ[0]? = some (some (.ref a)) ∧ H a = some (.ins C dx us) ∧ t σ H fun vs H1 => tk σ H1 fun zs H2 => zs.length = n ∧ sp (.ref a :: vs) zs H2 (fun _ H3 => D.nx σ H3) (E σ)
section
variable {X : Cx} {C D g : Addr} {k : Nat} {ks : List Str} {sp : SpK} {E : L2.St → XK} {x0 : Str} {body : List Stmt} {e : Expr} {es : List Expr} {kws : List Keyword} {t tk : TA} {p0 p1 apos pos p2 : Pos}
theorem run_rec {pins : List (Addr × Obj)} {σ : L2.St} {H : Hp} {s : Shared} {a q : Addr} {us ws : List Value} {vs zs : List V} {Q : VK} (F : CbG X.prog X.w X.K X.mg X.base k g ks sp) (hr : Room k X.A) (hx : PassesAt (CV X.prog X.w) X σ (E σ))
    (I : Inv X ((q, PySem.W.methodObj (.ref g) (.ref a)) :: pins) σ H s) (r : Vals vs us) (rz : Vals zs ws) (lz : zs.length = ks.length) (h : sp (.ref a :: vs) zs H Q (E σ)) :
    wpAny (model X.prog X.w) X.A (call (.ref q) us (ks.zip ws)) (EP X ((q, PySem.W.methodObj (.ref g) (.ref a)) :: pins) σ Q) X.xe s := by
  refine PySem.wpAny_call (PySem.W.method_call (ClX.pin_at I) (PySem.codeAny_mono (F X.A X.stack s H (.ref a :: us) ws (.ref a :: vs) zs Q (E σ) hr I.env0 (.cons rfl r) rz (rz.length.symm.trans lz) h) fun out s' z => ?_))
  match out, z with
  | .error e, z => exact hx _ H s e s' I z
  | .ok (.ret u), z => exact I.after z
  | .ok .next, z => exact z.elim
  | .ok .brk, z => exact z.elim
  | .ok .cont, z => exact z.elim
theorem cw_rec {A : Around} {s : Shared} {q a : Addr} {Q : Value → Shared → Prop} {Ex : Value → Shared → Prop} (hf : PySem.W.fnIn X.K g = true) (he : starEach (e :: es) X.env = (false, eval e X.env) :: starEach es X.env)
    (h : wpAny (model X.prog X.w) A (spliced (backTo pos (starEach (e :: es) X.env))) (fun vs s1 => PySem.W.MethP X.K q g (.ref a) s1.heap ∧ wpAny (model X.prog X.w) A (call (.ref q) vs) Q Ex s1) Ex s) :
    wpAny (model X.prog X.w) A (callWith pos (.ref q) [] (backTo pos (starEach (e :: es) X.env)) []) Q Ex s := by
  rw [he] at h ⊢
  cases hst : (backTo pos (starEach es X.env)).any (·.1) with
  | false => exact PySem.W.callWith_of (P := PySem.W.MethP X.K q g (.ref a)) (by show ((false || (backTo pos (starEach es X.env)).any (·.1)) || false) = false; rw [hst]; rfl) (PySem.W.keeps_M hf) (Calls.evalArgs_plain h)
  | true => exact PySem.W.ks_call (P := PySem.W.MethP X.K q g (.ref a)) (by show (false || (backTo pos (starEach es X.env)).any (·.1)) = true; rw [hst]; rfl) (PySem.W.keeps_M hf) (Calls.evalArgs_plain h)
theorem p1_sup {pl : Sem Bool} (S : SupX X x0 D) (M : SupM X.K C D g) (F : CbG X.prog X.w X.K X.mg X.base k g [] sp) (hr : Room k X.A) (hx : ∀ σ, PassesAt (CV X.prog X.w) X σ (E σ)) (ha : PA X (e :: es) t) (hmg : X.mg "super" = none)
    (hN : X.N[0]? = some x0 := by rfl) (hks : X.env.kindOf "super" = some .globalImplicit := by rfl) (hkc : X.env.kindOf "__class__" = some .free := by rfl) (hka : X.env.kindOf x0 = some .local := by rfl)
    (he : starEach (e :: es) X.env = (false, eval e X.env) :: starEach es X.env := by rfl)
    (ht : eval (.Call (.Attribute (.Call (.Name "super" p0) [] [] p1) "__init__" apos) (e :: es) [] pos) X.env = (do
      let ov ← attributeBase (.Call (.Name "super" p0) [] [] p1) "__init__" X.env (eval (.Call (.Name "super" p0) [] [] p1) X.env)
      standAt apos.atName
      let (f, first) ← holding [ov] (getMethod ov "__init__" pl)
      callWith pos f first (backTo pos (starEach (e :: es) X.env)) (backToKw pos (keywordEach [] X.env))) := by rfl)
    (hi : interactive X.env = false := by rfl) (hs : swapsWith (.Call (.Attribute (.Call (.Name "super" p0) [] [] p1) "__init__" apos) (e :: es) [] pos) none p2.line X.env = pure false := by rfl) :
    P1At X (.func body X.env) (.Expr (.Call (.Attribute (.Call (.Name "super" p0) [] [] p1) "__init__" apos) (e :: es) [] pos) p2) (tSup C 0 sp E t tNil) := by
  refine ⟨fun pins s σ H D' I h => ?_⟩
  obtain ⟨a, dx, us, h0, h1, h⟩ := h
  refine PySem.ks_wpAt_Expr_any (at_meth (pl := pl) (at_super S I h0 hN h1 M.sub hmg hks hkc hka (by decide) fun so s1 I1 => ?_) ht) hi hs
  refine get_super S.stat I1 h1 M fun q s2 I2 hb => ?_
  refine cw_rec (a := a) M.fn he (thn (ha.run pos _ s2 σ H _ I2 h) fun us s3 ⟨vs, H1, I3, r, z⟩ => ⟨⟨ClX.pin_at I3, I3.kIn⟩, ?_⟩)
  refine thn (run_rec (ks := []) (ws := []) F hr (hx σ) I3 r .nil rfl z.2) fun u s' ⟨v, H', I', _, z⟩ => ?_
  exact ⟨σ, H', ClX.unpin (ClX.unpin I'), z⟩
theorem p1_supK {pl : Sem Bool} (S : SupX X x0 D) (M : SupM X.K C D g) (F : CbG X.prog X.w X.K X.mg X.base k g ks sp) (hr : Room k X.A) (hx : ∀ σ, PassesAt (CV X.prog X.w) X σ (E σ)) (ha : PA X (e :: es) t) (hkw : PK X kws tk) (hmg : X.mg "super" = none)
    (hall : (backToKw pos (keywordEach kws X.env)).all (·.1.isSome) = true := by rfl) (hkn : (backToKw pos (keywordEach kws X.env)).filterMap (·.1) = ks := by rfl)
    (hN : X.N[0]? = some x0 := by rfl) (hks : X.env.kindOf "super" = some .globalImplicit := by rfl) (hkc : X.env.kindOf "__class__" = some .free := by rfl) (hka : X.env.kindOf x0 = some .local := by rfl)
    (he : starEach (e :: es) X.env = (false, eval e X.env) :: starEach es X.env := by rfl) (hpl : ((backTo pos (starEach (e :: es) X.env)).any (·.1) || (backToKw pos (keywordEach kws X.env)).any (·.1.isNone)) = false := by rfl)
    (ht : eval (.Call (.Attribute (.Call (.Name "super" p0) [] [] p1) "__init__" apos) (e :: es) kws pos) X.env = (do
      let ov ← attributeBase (.Call (.Name "super" p0) [] [] p1) "__init__" X.env (eval (.Call (.Name "super" p0) [] [] p1) X.env)
      standAt apos.atName
      let (f, first) ← holding [ov] (getMethod ov "__init__" pl)
      callWith pos f first (backTo pos (starEach (e :: es) X.env)) (backToKw pos (keywordEach kws X.env))) := by rfl)
    (hi : interactive X.env = false := by rfl) (hs : swapsWith (.Call (.Attribute (.Call (.Name "super" p0) [] [] p1) "__init__" apos) (e :: es) kws pos) none p2.line X.env = pure false := by rfl) :
    P1At X (.func body X.env) (.Expr (.Call (.Attribute (.Call (.Name "super" p0) [] [] p1) "__init__" apos) (e :: es) kws pos) p2) (tSup C ks.length sp E t tk) := by
  refine ⟨fun pins s σ H D' I h => ?_⟩
  obtain ⟨a, dx, us, h0, h1, h⟩ := h
  refine PySem.ks_wpAt_Expr_any (at_meth (pl := pl) (at_super S I h0 hN h1 M.sub hmg hks hkc hka (by decide) fun so s1 I1 => ?_) ht) hi hs
  refine get_super S.stat I1 h1 M fun q s2 I2 hb => ?_
  refine PySem.W.callWith_of (P := PySem.W.MethP X.K q g (.ref a)) hpl (PySem.W.keeps_M M.fn) (evalArgs_kw2 hall (thn (ha.run pos _ s2 σ H _ I2 h) fun us s3 ⟨vs, H1, I3, r, z⟩ => ?_) he)
  refine thn (hkw.run pos _ s3 σ H1 _ I3 z) fun ws s4 ⟨zs, H2, I4, rz, l4, z⟩ => ⟨⟨ClX.pin_at I4, I4.kIn⟩, ?_⟩
  rw [hkn]
  refine thn (run_rec F hr (hx σ) I4 r rz l4 z) fun u s' ⟨v, H', I', _, z⟩ => ?_
  exact ⟨σ, H', ClX.unpin (ClX.unpin I'), z⟩
end
section
variable {K : PySem.W.Frag} {E : Ent} {W : Wx} {σ : L2.St} {s : S} {F F' H H' : Hp} {al al' : List Addr} {st' : List Ob}
/-- behind a call that changes what slot 0 was handed -/
theorem Rel.callS (r : Rel K E F al H σ s) {a : Addr} {o : Ob} (h1 : s.env[0]? = some (.ow true o)) (h2 : σ[0]? = some (some (.ref a))) (g : RelG K F' al' H' st') (x : Ext (fun b => b ∈ al ∨ b = a) (fun _ => False) F al H F' al' H')
    (sl : Sl) (hs : SlR K al' F' H' sl (some (.ref a))) (hp : ∀ p u, sl = .ow p u → p = true) : Rel K E F' al' H' σ ⟨s.env.set 0 sl, st'⟩ := by
  have aop : a ∈ E.op := by simpa using r.onew 0 true o a h1 h2
  refine ⟨g.sub, g.clen, g.cell, g.nd, by show (s.env.set 0 sl).length = σ.length; rw [List.length_set]; exact r.elen, fun i sl' v e1 e2 => ?_, fun i j p q o1 o2 b e1 e2 e3 e4 => ?_, r.ent.trans x (fun b hb => ?_) (fun _ z => z.elim), fun i p o1 b e1 e2 => ?_⟩
  · rcases set_get e1 with ⟨rfl, rfl, _⟩ | ⟨ne, e1⟩
    · rw [h2] at e2; cases e2; exact hs
    · have q := r.env i sl' v e1 e2
      cases sl' with
      | un => exact True.intro
      | im d =>
        obtain ⟨y, e, q⟩ := q
        exact ⟨y, e, q.mono x.gr⟩
      | ow p o1 =>
        obtain ⟨b, ho, e, q1, q2, q3, q4⟩ := q
        subst e
        have nb : b ≠ a := fun z => by
          subst z
          exact ne (r.own i 0 p true o1 o b e1 h1 e2 h2).symm
        refine ⟨b, ho, rfl, ?_, fun hm => ?_, x.keep b ho q3 (fun z => z.elim q2 nb), q4.mono x.gr⟩
        · cases z : F' b with
          | none => rfl
          | some u =>
            rcases x.fn b u z with h | h | h
            · rw [q1] at h; cases h
            · rw [q3] at h; cases h
            · exact h.elim
        · obtain ⟨l, e, n⟩ := x.al
          rw [e] at hm
          rcases List.mem_append.mp hm with hm | hm
          · exact q2 hm
          · rw [n b hm] at q3; cases q3
  · rcases set_get e1 with ⟨rfl, e1', _⟩ | ⟨ne, e1⟩
    · rcases set_get e2 with ⟨rfl, _, _⟩ | ⟨ne2, e2⟩
      · rfl
      · rw [h2] at e3; cases e3
        exact r.own 0 j true q o o2 _ h1 e2 h2 e4
    · rcases set_get e2 with ⟨rfl, _, _⟩ | ⟨ne2, e2⟩
      · rw [h2] at e4; cases e4
        exact r.own i 0 p true o1 o _ e1 h1 e3 h2
      · exact r.own i j p q o1 o2 b e1 e2 e3 e4
  · rcases hb with hb | rfl
    · obtain ⟨l, e, n⟩ := r.ent.al
      rw [e] at hb
      rcases List.mem_append.mp hb with hb | hb
      · exact .inl (.inl hb)
      · exact .inr (n b hb)
    · exact .inl (.inr aop)
  · rcases set_get e1 with ⟨rfl, e1', _⟩ | ⟨ne, e1⟩
    · rw [h2] at e2; cases e2
      rw [if_pos (hp p o1 e1'.symm)]
      exact aop
    · exact r.onew i p o1 b e1 e2
end
/-- super().__init__(..) in an init of the class c: f is the init above -/
def svSup (f : FsIK) (c : Str) (m : M (List D)) (n : Nat) (mk : M (List D)) : Sx := fun s0 => match (s0.env[0]? : Option Sl) with
  | some (Sl.ow true (Ob.ins c0 _)) => if c0 = c then (svLet m fun ds => svLet mk fun es s => match (s.env[0]? : Option Sl) with
    | some (Sl.ow true (Ob.ins c1 fs)) => if c1 = c ∧ es.length = n then (match f c fs ds es s.st with
      | .ok fs' st => .nx ⟨s.env.set 0 (.ow true (.ins c fs')), st⟩
      | .ex x st => .ex x ⟨s.env.set 0 .un, st⟩
      | .no => .no) else .no
    | _ => .no) s0 else .no
  | _ => .no
section
variable {K : PySem.W.Frag} {W : Wx} {f : FsIK} {c : Str} {n : Nat} {ta tk : TA} {m mk : M (List D)}
theorem slot_ins {E : Ent} {F H : Hp} {al : List Addr} {σ : L2.St} {s : S} {c : Str} {fs : List (Str × D)} {p : Bool} (rel : Rel K E F al H σ s) (h : s.env[0]? = some (.ow p (.ins c fs))) :
    ∃ a dx us, σ[0]? = some (some (.ref a)) ∧ F a = none ∧ a ∉ al ∧ H a = some (.ins (He.ga K c) dx us) ∧ DatF K al F fs us := by
  have hi : 0 < σ.length := by rw [← rel.elen]; exact (List.getElem?_eq_some_iff.mp h).1
  obtain ⟨a, ho, e, q1, q2, q3, q4⟩ := rel.env 0 _ _ h (List.getElem?_eq_getElem hi)
  cases ho <;> first | exact q4.elim | skip
  obtain ⟨rfl, q5⟩ := (show _ ∧ _ from q4)
  exact ⟨a, _, _, (List.getElem?_eq_getElem hi).trans (congrArg some e), q1, q2, q3, q5⟩
theorem good_sup (ga : GoodA K W ta m) (gk : GoodA K W tk mk) : GoodS K W (tSup (He.ga K c) n (spIK K f) (WE W) ta tk) (svSup f c m n mk) := fun E F al H σ s D rel w => by
  unfold svSup at w
  split at w
  · rename_i c0 fs0 h0
    by_cases hc : c0 = c
    · rw [if_pos hc] at w
      subst hc
      obtain ⟨a, dx, us, e0, q1, q2, q3, q4⟩ := slot_ins rel h0
      refine ⟨a, dx, us, e0, q3, ?_⟩
      refine (ga E F al H σ s rel).want (u := fun vs H1 => tk σ H1 fun zs H2 => zs.length = n ∧ spIK K f (.ref a :: vs) zs H2 (fun _ H3 => D.nx σ H3) (WE W σ)) w (fun ds s1 vs F1 al1 H1 _ rel1 gr1 v1 w1 => ?_) fun _ _ _ _ _ h => h
      refine (gk E F1 al1 H1 σ s1 rel1).want (u := fun zs H2 => zs.length = n ∧ spIK K f (.ref a :: vs) zs H2 (fun _ H3 => D.nx σ H3) (WE W σ)) w1 (fun es s2 zs F2 al2 H2 _ rel2 gr2 v2 w2 => ?_) fun _ _ _ _ _ h => h
      have v1 : DatL K al1 F1 ds vs := v1
      have v2 : DatL K al2 F2 es zs := v2
      split at w2
      · rename_i c1 fs1 h1
        by_cases hl : c1 = c0 ∧ es.length = n
        · rw [if_pos hl] at w2
          obtain ⟨rfl, hl⟩ := hl
          obtain ⟨b, dx1, us1, e1, p1, p2, p3, p4⟩ := slot_ins rel2 h1
          rw [e0] at e1
          cases e1
          refine ⟨by rw [← v2.length]; exact hl, F2, al2, s2.st, c1, fs1, ds, es, a, dx1, us1, vs, rfl, rel2.g, p1, p2, p3, p4, v1.mono gr2, v2, ?_⟩
          cases hf : f c1 fs1 ds es s2.st with
          | no => rw [hf] at w2; exact w2.elim
          | ok fs' st =>
            rw [hf] at w2
            intro F' al' H' dx' us' g ex z1 z2 z3 z4
            exact w2 F' al' H' σ (rel2.callS h1 e0 g ex (.ow true (.ins c1 fs')) ⟨a, _, rfl, z1, z2, z3, ⟨rfl, z4⟩⟩ fun p u h => by cases h; rfl) ex.gr
          | ex xc st =>
            rw [hf] at w2
            intro cls dd F' al' H' g ex z
            exact w2 cls dd F' al' H' σ (rel2.callS h1 e0 g ex .un True.intro fun p u h => by cases h) ex.gr z
        · rw [if_neg hl] at w2; exact w2.elim
      · exact w2.elim
    · rw [if_neg hc] at w; exact w.elim
  · exact w.elim
end
end VI
end
section
set_option Elab.async false
set_option linter.all false
set_option maxRecDepth 100000
set_option maxHeartbeats 2000000
/-! V27: inits that say super(), inits with *words. -/
namespace VI
open PySem PySem.Spec PyProof.Rows L2 NdefX

/-! ### blocks' worth where the running code is known -/
def SAt (X : Cx) (K : PySem.W.Frag) (W : Wx) (c : Code) (l : List Stmt) (t : TS) (sv : Sx) : Prop := X.K = K ∧ PAt X c l t ∧ GoodS K W t sv
def S1At (X : Cx) (K : PySem.W.Frag) (W : Wx) (c : Code) (st : Stmt) (t : TS) (sv : Sx) : Prop := X.K = K ∧ P1At X c st t ∧ GoodS K W t sv
section
variable {X : Cx} {K : PySem.W.Frag} {W : Wx} {c : Code} {st : Stmt} {l : List Stmt} {t u : TS} {a b : Sx}
theorem sat_all (h : SSs X K W l t a) : SAt X K W c l t a := ⟨h.1, pat_all h.2.1, h.2.2⟩
theorem sat_cons (h : SS X K W st t a) (r : SAt X K W c l u b) : SAt X K W c (st :: l) (tSeq t u) (svSeq a b) := ⟨h.1, pat_cons (p1_all h.2.1) r.2.1, good_seq h.2.2 r.2.2⟩
theorem sat_sup (h : S1At X K W c st t a) (r : SAt X K W c l u b) : SAt X K W c (st :: l) (tSeq t u) (svSeq a b) := ⟨h.1, pat_cons h.2.1 r.2.1, good_seq h.2.2 r.2.2⟩
theorem sat_sup1 (h : S1At X K W c st t a) : SAt X K W c [st] t a := ⟨h.1, pat_one h.2.1, h.2.2⟩
end
/-- the init above D for selves of the class c, called in one way -/
structure SupP (P : Program) (w : World) (K : PySem.W.Frag) (mg : Str → Option Value) (base : Heap) (k : Nat) (c : Str) (D : Addr) (ks : List Str) (f : FsIK) : Prop where
  fn : ∃ g, SupM K (He.ga K c) D g ∧ CbG P w K mg base k g ks (spIK K f)
theorem SupP.mono {P : Program} {w : World} {K : PySem.W.Frag} {mg : Str → Option Value} {base : Heap} {j k : Nat} {c : Str} {D : Addr} {ks : List Str} {f : FsIK} (h : SupP P w K mg base j c D ks f) (hk : j ≤ k) : SupP P w K mg base k c D ks f := by
  obtain ⟨g, h1, h2⟩ := h.fn
  exact ⟨g, h1, h2.mono hk⟩
section
variable {X : Cx} {W : Wx} {K : PySem.W.Frag} {Dc : Addr} {k : Nat} {ks : List Str} {c x0 : Str} {f : FsIK} {body : List Stmt} {e : Expr} {es : List Expr} {kws : List Keyword} {t tk : TA} {m mk : M (List D)} {p0 p1 apos pos p2 : Pos}
theorem s1_sup {pl : Sem Bool} (S : SupX X x0 Dc) (F : SupP X.prog X.w K X.mg X.base k c Dc [] f) (hr : Room k X.A) (hx : ∀ σ, PassesAt (CV X.prog X.w) X σ (WE W σ)) (ha : SA X K W (e :: es) t m) (hmg : X.mg "super" = none)
    (hN : X.N[0]? = some x0 := by rfl) (hks : X.env.kindOf "super" = some .globalImplicit := by rfl) (hkc : X.env.kindOf "__class__" = some .free := by rfl) (hka : X.env.kindOf x0 = some .local := by rfl)
    (he : starEach (e :: es) X.env = (false, eval e X.env) :: starEach es X.env := by rfl)
    (ht : eval (.Call (.Attribute (.Call (.Name "super" p0) [] [] p1) "__init__" apos) (e :: es) [] pos) X.env = (do
      let ov ← attributeBase (.Call (.Name "super" p0) [] [] p1) "__init__" X.env (eval (.Call (.Name "super" p0) [] [] p1) X.env)
      standAt apos.atName
      let (f, first) ← holding [ov] (getMethod ov "__init__" pl)
      callWith pos f first (backTo pos (starEach (e :: es) X.env)) (backToKw pos (keywordEach [] X.env))) := by rfl)
    (hi : interactive X.env = false := by rfl) (hs : swapsWith (.Call (.Attribute (.Call (.Name "super" p0) [] [] p1) "__init__" apos) (e :: es) [] pos) none p2.line X.env = pure false := by rfl) :
    S1At X K W (.func body X.env) (.Expr (.Call (.Attribute (.Call (.Name "super" p0) [] [] p1) "__init__" apos) (e :: es) [] pos) p2) (tSup (He.ga K c) 0 (spIK K f) (WE W) t tNil) (svSup f c m 0 evNil) := by
  obtain ⟨rfl, pa, ga⟩ := ha
  obtain ⟨g, h1, h2⟩ := F.fn
  exact ⟨rfl, p1_sup S h1 h2 hr hx pa hmg hN hks hkc hka he ht hi hs, good_sup ga (sa_nil (X := X) (W := W)).2.2⟩
theorem s1_supK {pl : Sem Bool} (S : SupX X x0 Dc) (F : SupP X.prog X.w K X.mg X.base k c Dc ks f) (hr : Room k X.A) (hx : ∀ σ, PassesAt (CV X.prog X.w) X σ (WE W σ)) (ha : SA X K W (e :: es) t m) (hkw : SK X K W kws tk mk) (hmg : X.mg "super" = none)
    (hall : (backToKw pos (keywordEach kws X.env)).all (·.1.isSome) = true := by rfl) (hkn : (backToKw pos (keywordEach kws X.env)).filterMap (·.1) = ks := by rfl)
    (hN : X.N[0]? = some x0 := by rfl) (hks : X.env.kindOf "super" = some .globalImplicit := by rfl) (hkc : X.env.kindOf "__class__" = some .free := by rfl) (hka : X.env.kindOf x0 = some .local := by rfl)
    (he : starEach (e :: es) X.env = (false, eval e X.env) :: starEach es X.env := by rfl) (hpl : ((backTo pos (starEach (e :: es) X.env)).any (·.1) || (backToKw pos (keywordEach kws X.env)).any (·.1.isNone)) = false := by rfl)
    (ht : eval (.Call (.Attribute (.Call (.Name "super" p0) [] [] p1) "__init__" apos) (e :: es) kws pos) X.env = (do
      let ov ← attributeBase (.Call (.Name "super" p0) [] [] p1) "__init__" X.env (eval (.Call (.Name "super" p0) [] [] p1) X.env)
      standAt apos.atName
      let (f, first) ← holding [ov] (getMethod ov "__init__" pl)
      callWith pos f first (backTo pos (starEach (e :: es) X.env)) (backToKw pos (keywordEach kws X.env))) := by rfl)
    (hi : interactive X.env = false := by rfl) (hs : swapsWith (.Call (.Attribute (.Call (.Name "super" p0) [] [] p1) "__init__" apos) (e :: es) kws pos) none p2.line X.env = pure false := by rfl) :
    S1At X K W (.func body X.env) (.Expr (.Call (.Attribute (.Call (.Name "super" p0) [] [] p1) "__init__" apos) (e :: es) kws pos) p2) (tSup (He.ga K c) ks.length (spIK K f) (WE W) t tk) (svSup f c m ks.length mk) := by
  obtain ⟨rfl, pa, ga⟩ := ha
  obtain ⟨_, pk, gk⟩ := hkw
  obtain ⟨g, h1, h2⟩ := F.fn
  exact ⟨rfl, p1_supK S h1 h2 hr hx pa pk hmg hall hkn hN hks hkc hka he hpl ht hi hs, good_sup ga gk⟩
end

/-! ### the init of the class k that says super() -/
def initC (n N : Nat) (k : Str) (sv : Sx) : FsI := fun c fs ds st => initOf (n + 1) N sv c fs (ds ++ [.fn k]) st
/-- what is known of the program's text -/
structure PrgF (P : Program) (file : Str) : Prop where
  file : (P.main.file : Str) = file
  top : (P.main.scope.names.lookup ("super" : Str)).isSome = false
/-- the code record of a def names the file -/
def codeB (K : PySem.W.Frag) (p : Str × Option Str) (file : Str) : Bool := match K.lookup (He.fAd K p) with
  | some o => (match o.data with
    | .func g => (match g.code with
      | .ref c => (match K.lookup c with
        | some o2 => (match o2.data with
          | .fields vs => (match (vs[2]? : Option Value) with
            | some (Value.str z _) => decide (z = file)
            | _ => false)
          | _ => false)
        | none => false)
      | _ => false)
    | _ => false)
  | none => false
theorem codeB_ok {K : PySem.W.Frag} {p : Str × Option Str} {file : Str} {o : Obj} {g : FuncData} {c : Addr} (h : codeB K p file = true) (lk : K.lookup (He.fAd K p) = some o) (ho : o.data = .func g) (hc : g.code = .ref c) :
    ∃ (o2 : Obj) (vs : Array Value) (t : Tok), K.lookup c = some o2 ∧ o2.data = .fields vs ∧ vs[2]? = some (.str file t) := by
  unfold codeB at h
  rw [lk] at h
  dsimp only at h
  rw [ho] at h
  dsimp only at h
  rw [hc] at h
  dsimp only at h
  split at h
  · rename_i o2 e2
    split at h
    · rename_i vs e3
      split at h
      · rename_i z t e4
        rw [of_decide_eq_true h] at e4
        exact ⟨o2, vs, t, e2, e3, e4⟩
      · cases h
    · cases h
  · cases h
section
variable {P : Program} {w : World} {K : PySem.W.Frag} {mg : Str → Option Value} {base : Heap} {x q : Str} {ar : Arguments} {body : List Stmt} {sc : Scope} {dvs : List V} {kws : List (Str × V)} {cc f : Addr} {fd : FuncData} {N ps : List Str}
theorem spI_fn {n N : Nat} {k : Str} {sv : Sx} {vs : List V} {H : Hp} {Q : VK} {E : XK} (h : spI K (initC n N k sv) vs H Q E) : spI K (initOf (n + 1) N sv) (vs ++ [.ref (He.ga K k)]) H Q E := by
  obtain ⟨F, al, st, c, fs, ds, y, dx, us, ws, rfl, g, h1, h2, h3, h4, d, z⟩ := h
  exact ⟨F, al, st, c, fs, (ds ++ [D.fn k] : List D), y, dx, us, (ws ++ [V.ref (He.ga K k)] : List V), rfl, g, h1, h2, h3, h4, d.app (.cons (Dat.fn k) .nil), (z : FiW K F al H y c Q E (initOf (n + 1) N sv c fs (ds ++ [.fn k]) st))⟩
theorem initC_ok {p : Str × Option Str} {k : Nat} {cn file x0 : Str} {a0 : Arg} {sv : Sx} (F : FunC K x q ar body sc dvs kws cc (He.fAd K p) fd) (S : NScope N ps ["__class__"] sc) (hC : ccB K cc (He.ga K cn) = true) (hf : codeB K p file = true) (hP : PrgF P file)
    (hcl : (PySem.W.clsIn K (He.ga K cn)).isSome = true) (hst : PySem.W.nsIn K cStatics "thirdparty.any" = some none) (har : (ar.posonlyargs ++ ar.args).head? = some a0) (ha0 : a0.arg = x0)
    (hb : ∀ (c : Addr) (A : Around) (outer : List Env) (s : Shared) (H : Hp) (E : XK), Room k (A.deeper (envF (nfS x q ar body sc cc c) (He.fAd K p) s.heap.objs.size)) → Bx (ncx (CV P w) P w K mg base N (nfS x q ar body sc cc c) (He.fAd K p) A outer s H E) (fun cls d _ H => E cls d H) →
      SupX (ncx (CV P w) P w K mg base N (nfS x q ar body sc cc c) (He.fAd K p) A outer s H E) x0 (He.ga K cn) →
      ∃ t, SAt (ncx (CV P w) P w K mg base N (nfS x q ar body sc cc c) (He.fAd K p) A outer s H E) K (fun cls d _ H => E cls d H) (.func body (envF (nfS x q ar body sc cc c) (He.fAd K p) s.heap.objs.size)) body t sv) :
    FnOk P w K mg base (CV P w) (k + 1) (He.fAd K p) fd ps (spI K (initC ps.length N.length cn sv)) := by
  have len : ∀ vs H Q E, spI K (initC ps.length N.length cn sv) vs H Q E → vs.length = ps.length := fun vs H Q E h => by
    have := init_len (spI_fn h)
    rw [List.length_append, List.length_singleton] at this
    omega
  refine funC_ok F S hC len fun c A outer s H vs Q E hcode hr h => ?_
  have hlen := len _ _ _ _ h
  obtain ⟨o1, lc, dc⟩ := ccB_ok hC
  obtain ⟨cD, hD⟩ := Option.isSome_iff_exists.mp hcl
  have sup : SupX (ncx (CV P w) P w K mg base N (nfS x q ar body sc cc c) (He.fAd K p) A outer s H E) x0 (He.ga K cn) := by
    obtain ⟨oc, od, dV, kV, doc, pm, an, cdv, ct, osl, rfl, lk, hcd, _, _⟩ := F.has
    obtain ⟨o2, vs2, t2, l2, d2, v2⟩ := codeB_ok hf lk rfl hcode
    exact ⟨⟨He.fAd K p, _, _, a0, rfl, lk, rfl, har, ha0⟩, ⟨c, o2, vs2, file, t2, rfl, l2, d2, v2, by rw [show ((ncx (CV P w) P w K mg base N (nfS x q ar body sc cc c) (He.fAd K p) A outer s H E).prog.main.file : Str) = file from hP.file]; exact beq_self_eq_true _⟩, ⟨cc, o1, rfl, lc, dc⟩, hP.top, ⟨cD, hD⟩, hst⟩
  have tk : L2.Takes (ncx (CV P w) P w K mg base N (nfS x q ar body sc cc c) (He.fAd K p) A outer s H E) (fun cls d _ H => E cls d H) := L2.takes_of rfl rfl rfl rfl
  obtain ⟨t, _, pt, g⟩ := hb c A outer s H E hr ⟨PassesOwn.leaving, tk⟩ sup
  refine ⟨t, pt, ?_⟩
  have hN : ps.length + 1 ≤ N.length := by
    have := congrArg List.length S.pre
    rw [List.length_take, List.length_append] at this
    simp only [List.length_singleton] at this
    omega
  have e : startF N vs [some (.ref (He.ga K cn))] = L2.start N (vs ++ [.ref (He.ga K cn)]) := by
    unfold startF L2.start
    rw [List.map_append, List.append_assoc, List.length_append]
    simp only [List.map_cons, List.map_nil, List.length_singleton]
    rw [show N.length - vs.length - 1 = N.length - (vs.length + 1) by omega]
  rw [e]
  exact init_body (X := ncx (CV P w) P w K mg base N (nfS x q ar body sc cc c) (He.fAd K p) A outer s H E) (ps := ps ++ [("__class__" : Str)]) (by rw [List.length_append]; exact hN) g (by rw [List.length_append]; exact spI_fn h)
end
end VI
end
section
set_option Elab.async false
set_option linter.all false
set_option maxRecDepth 100000
set_option maxHeartbeats 2000000
/-! V28: how the parameters of a def with super() are bound; *words; what an init is called by. -/
namespace VI
open PySem PySem.Spec PyProof.Rows L2 NdefX

section
variable {K : PySem.W.Frag} {x q : Str} {ar : Arguments} {body : List Stmt} {sc : Scope} {dvs : List V} {kws : List (Str × V)} {cc f : Addr} {fd : FuncData} {ps : List Str}
theorem FunC.bN (F : FunC K x q ar body sc [] kws cc f fd) (h : ∀ (kV doc pm : Value) (an : Option Addr) (cdv ct : Value) (us : List Value), us.length = ps.length → bindArgs (PySem.W.ksFn x q ar body sc .none kV doc pm an cdv ct cc) ⟨us, []⟩ = pure (ps.zip us)) : Binds K fd ps [] := by
  obtain ⟨_, _, dV, kV, doc, pm, an, cdv, ct, _, e, _, _, hd, _⟩ := F.has
  subst e
  cases hd with
  | inl z => obtain ⟨_, rfl⟩ := z; exact Binds.all (h kV doc pm an cdv ct)
  | inr z => exact (z.1 rfl).elim
theorem FunC.b0 (F : FunC K x q ar body sc [] kws cc f fd) (n : Nat) (hk : kws ≠ []) (hn : n + kws.length = ps.length)
    (h : ∀ (D : Addr) (doc pm : Value) (an : Option Addr) (cdv ct : Value) (us ks : List Value), us.length = n → ks.length = kws.length → KwChain D ((kws.map Prod.fst).zip ks) (bindArgs (PySem.W.ksFn x q ar body sc .none (.ref D) doc pm an cdv ct cc) ⟨us, []⟩) (ps.zip (us ++ ks))) :
    ∃ ds, Vals (kws.map Prod.snd) ds ∧ Binds K fd ps ds := by
  obtain ⟨_, _, dV, kV, doc, pm, an, cdv, ct, _, e, _, _, hd, hkw⟩ := F.has
  subst e
  cases hd with
  | inr z => exact (z.1 rfl).elim
  | inl z =>
    obtain ⟨_, rfl⟩ := z
    cases hkw with
    | inl z => exact (hk z).elim
    | inr z =>
      obtain ⟨D, rfl, look⟩ := z
      obtain ⟨ks, lk, rk, all⟩ := kwd_vals look
      refine ⟨ks, rk, fun s us X len => ?_⟩
      rw [List.length_append, lk] at len
      have lu : us.length = n := by omega
      exact BindsTo.of_looks fun M => (h D doc pm an cdv ct us ks lu lk).looks X all
theorem FunC.bK (F : FunC K x q ar body sc [] kws cc f fd) (n : Nat) (ks : List Str) (ms : List (Str × V)) (g : {α : Type} → List α → List α → List α → List α) (hk : kws ≠ []) (hms : ∀ y ∈ ms, y ∈ kws)
    (rel : ∀ {vs mz zs : List V} {us mv ws : List Value}, Vals vs us → Vals mz mv → Vals zs ws → Vals (g vs mz zs) (g us mv ws))
    (h : ∀ (D : Addr) (doc pm : Value) (an : Option Addr) (cdv ct : Value) (us mv ws : List Value), us.length = n → mv.length = ms.length → ws.length = ks.length → KwChain D ((ms.map Prod.fst).zip mv) (bindArgs (PySem.W.ksFn x q ar body sc .none (.ref D) doc pm an cdv ct cc) ⟨us, ks.zip ws⟩) (ps.zip (g us mv ws))) :
    ∃ mv : List Value, KBn K fd ps n ks (fun us ws => g us mv ws) (fun vs zs => g vs (ms.map Prod.snd) zs) := by
  obtain ⟨_, _, dV, kV, doc, pm, an, cdv, ct, _, e, _, _, hd, hkw⟩ := F.has
  subst e
  cases hd with
  | inr z => exact (z.1 rfl).elim
  | inl z =>
    obtain ⟨_, rfl⟩ := z
    cases hkw with
    | inl z => exact (hk z).elim
    | inr z =>
      obtain ⟨D, rfl, look⟩ := z
      obtain ⟨mv, lm, rm, all⟩ := kwd_vals (ms := ms) fun y hy => look y (hms y hy)
      exact ⟨mv, fun s us ws X l1 l2 => BindsTo.of_looks fun M => (h D doc pm an cdv ct us mv ws l1 lm l2).looks X all, fun r1 r2 => rel r1 rm r2⟩
end

/-! ### an init, as it is called -/
/-- by position, des fill up -/
def ipos (f : FsI) (des : List D) : FsIK := fun c fs ds es st => f c fs (ds ++ des) st
section
variable {P : Program} {w : World} {K : PySem.W.Frag} {mg : Str → Option Value} {base : Heap} {k : Nat} {a : Addr} {fd : FuncData} {ps : List Str} {f : FsI}
theorem cb_ipos {des : List D} {ds : List Value} (F : FnOk P w K mg base (CV P w) k a fd ps (spI K f)) (hb : Binds K fd ps ds) (hd : Vals (des.map D.v0) ds) (hf : des.all D.flat = true) : CbG P w K mg base k a [] (spIK K (ipos f des)) := by
  refine (CbG.pos F hb hd).imp fun vs zs H Q E h => ?_
  obtain ⟨F0, al, st, c, fs, xs, es, y, dx, us, ws, rfl, g, h1, h2, h3, h4, d, _, z⟩ := h
  exact ⟨F0, al, st, c, fs, xs ++ des, y, dx, us, ws ++ des.map D.v0, rfl, g, h1, h2, h3, h4, d.app (flat_dat hf), z⟩
end
end VI
end
section
set_option Elab.async false
set_option linter.all false
set_option maxRecDepth 100000
set_option maxHeartbeats 2000000
/-! V29: inits called by keywords; inits with *words. -/
namespace VI
open PySem PySem.Spec PyProof.Rows L2 NdefX

theorem RelG.new {K : PySem.W.Frag} {F H : Hp} {al : List Addr} {st : List Ob} (r : RelG K F al H st) {p : Addr} {o : HO} (h : H p = none) : RelG K (upd F p o) al (upd H p o) st := by
  have z : Rel K ⟨F, al, H, []⟩ F al H [] ⟨[], st⟩ := ⟨r.sub, r.clen, r.cell, r.nd, rfl, fun i sl v e => by simp at e, fun i j p q o u a e => by simp at e, .refl, fun i p o a e => by simp at e⟩
  exact (z.new h).g
theorem FiW.of {K : PySem.W.Frag} {F F1 H H1 : Hp} {al al1 : List Addr} {x : Addr} {c : Str} {Q : VK} {E : XK} {r : FrI} (e : Ext (fun a => a ∈ al ∨ a = x) (fun _ => False) F al H F1 al1 H1) (h : FiW K F al H x c Q E r) : FiW K F1 al1 H1 x c Q E r := by
  have two : ∀ {F' H' : Hp} {al' : List Addr}, Ext (fun a => a ∈ al1 ∨ a = x) (fun _ => False) F1 al1 H1 F' al' H' → Ext (fun a => a ∈ al ∨ a = x) (fun _ => False) F al H F' al' H' := fun {F' H' al'} e2 => e.trans e2 (fun b hb => by
    rcases hb with hb | hb
    · obtain ⟨l, el, n⟩ := e.al
      rw [el] at hb
      rcases List.mem_append.mp hb with hb | hb
      · exact .inl (.inl hb)
      · exact .inr (n b hb)
    · exact .inl (.inr hb)) (fun _ z => z.elim)
  cases r with
  | ok fs st => exact fun F' al' H' dx us g e2 => h F' al' H' dx us g (two e2)
  | ex xc st => exact fun cls d F' al' H' g e2 => h cls d F' al' H' g (two e2)
  | no => exact h
/-- n values with self, m keywords; is: their places behind self -/
def ikw (f : FsI) (n m : Nat) (is : List Nat) (ms : List D) : FsIK := fun c fs ds es st => if ds.length + 1 = n ∧ es.length = m then f c fs (perm is (ds ++ (ms ++ es))) st else .no
/-- behind n values the others are one tuple -/
def istar (f : FsI) (n : Nat) : FsIK := fun c fs ds es st => if n ≤ ds.length ∧ (ds.drop n).length ≤ sizeLine then f c fs (ds.take n ++ [.tup (ds.drop n)]) st else .no
section
variable {P : Program} {w : World} {K : PySem.W.Frag} {mg : Str → Option Value} {base : Heap} {k : Nat} {a : Addr} {fd : FuncData} {ps : List Str} {f : FsI}
theorem cb_ikw {n : Nat} {ks : List Str} {is : List Nat} {ms : List D} {g : List Value → List Value → List Value} {gV : List V → List V → List V} (F : FnOk P w K mg base (CV P w) k a fd ps (spI K f)) (hb : KBn K fd ps n ks g gV)
    (hg : ∀ (y : V) (ws zs : List V), ws.length + 1 = n → zs.length = ks.length → gV (y :: ws) zs = y :: perm is (ws ++ (ms.map D.v0 ++ zs))) (hf : ms.all D.flat = true) : CbG P w K mg base k a ks (spIK K (ikw f n ks.length is ms)) := by
  refine (CbG.kw F hb).imp fun vs zs H Q E h => ?_
  obtain ⟨F0, al, st, c, fs, xs, es, y, dx, us, ws, rfl, g, h1, h2, h3, h4, d, d2, z⟩ := h
  unfold ikw at z
  split at z
  · rename_i hl
    have l1 : ws.length + 1 = n := by rw [← d.length]; exact hl.1
    have l2 : zs.length = ks.length := by rw [← d2.length]; exact hl.2
    refine ⟨l1, ?_⟩
    rw [hg (.ref y) ws zs l1 l2]
    exact ⟨F0, al, st, c, fs, _, y, dx, us, _, rfl, g, h1, h2, h3, h4, perm_dat (d.app ((flat_dat hf).app d2)) is, z⟩
  · exact z.elim
theorem cb_star {n : Nat} (F : FnR P w K mg base (CV P w) k a (fun vs H Q E => ∃ ws rest, vs = ws ++ rest ∧ ws.length = n + 1 ∧ rest.length ≤ sizeLine ∧ ∀ p, H p = Option.none → spI K f (ws ++ [V.ref p]) (upd H p (.tup rest)) Q E)) : CbG P w K mg base k a [] (spIK K (istar f n)) := fun A outer s H us ws vs zs Q E hr e0 r rz l h => by
  have e : ([] : List Str).zip ws = [] := rfl
  rw [e]
  refine F A outer s H us vs Q E hr e0 r ?_
  obtain ⟨F0, al, st, c, fs, ds, es, y, dx, us, ws, rfl, g, h1, h2, h3, h4, d, _, z⟩ := h
  unfold istar at z
  split at z
  · rename_i hl
    have lw : ds.length = ws.length := d.length
    refine ⟨.ref y :: ws.take n, ws.drop n, by rw [List.cons_append, List.take_append_drop], by rw [List.length_cons, List.length_take]; omega, by rw [← d.drop.length]; exact hl.2, fun p hp => ?_⟩
    have hF := g.sub.free hp
    have np : y ≠ p := fun q => by subst q; rw [h3] at hp; cases hp
    have ex : Ext (fun b => b ∈ al ∨ b = y) (fun _ => False) F0 al H (upd F0 p (.tup (ws.drop n))) al (upd H p (.tup (ws.drop n))) := .new hp hF
    refine ⟨upd F0 p (.tup (ws.drop n)), al, st, c, fs, ds.take n ++ [.tup (ds.drop n)], y, dx, us, ws.take n ++ [.ref p], rfl, g.new hp, by rw [upd_ne np]; exact h1, h2, by rw [upd_ne np]; exact h3, h4.mono ex.gr, ?_, FiW.of ex z⟩
    exact (d.take.mono ex.gr).app (.cons (.tup upd_same (d.drop.mono ex.gr) hl.2) .nil)
  · exact z.elim
end
section
variable {P : Program} {w : World} {K : PySem.W.Frag} {mg : Str → Option Value} {base : Heap} {x qual pv : Str} {params : Arguments} {body : List Stmt} {scope : Scope} {dvs : List V} {kws : List (Str × V)} {f : Addr} {fd : FuncData} {N ps : List Str}
/-- def f(p1, *pv): how it is bound -/
theorem bind_var1 {fd : FuncData} {va : Arg} {p1 pv : Str} (h1 : fd.params.posonlyargs = []) (h2 : fd.params.args.map (·.arg) = [p1]) (h3 : fd.params.vararg = some va) (h4 : va.arg = pv) (h5 : fd.params.kwonlyargs = []) (h6 : fd.params.kwarg = none) (hd : fd.defaults = .none) (a : Value) (rest : List Value) :
    bindArgs fd ⟨a :: rest, []⟩ = (newTuple rest >>= fun t => pure [(p1, a), (pv, t)]) := by
  unfold bindArgs
  simp [h1, h2, h3, h4, h5, h6, hd, seqItems?]
  rfl
/-- def __init__(self, .., *pv) -/
theorem star_init {k : Nat} {sv : Sx} (F : FunD K x qual params body scope [] kws f fd) (SC : FnScope N (ps ++ [pv]) scope) (n : Nat) (hn : ps.length = n + 1)
    (hbi : ∀ (kV doc pm : Value) (an : Option Addr) (cdv ct : Value) (us rest : List Value), us.length = ps.length → bindArgs (PySem.W.fnOf x qual params body scope .none kV doc pm an cdv ct) ⟨us ++ rest, []⟩ = (newTuple rest >>= fun t => pure (ps.zip us ++ [(pv, t)])))
    (hb : ∀ (cdv : Value) (A : Around) (outer : List Env) (s : Shared) (H : Hp) (E : XK), Room k (A.deeper (PyProof.Rows.envOfC qual scope s.heap.objs.size f cdv)) → Bx (cxOf (CV P w) P w K mg base N qual scope f cdv A outer s H E) (fun cls d _ H => E cls d H) →
      ∃ t, SSs (cxOf (CV P w) P w K mg base N qual scope f cdv A outer s H E) K (fun cls d _ H => E cls d H) body t sv) : CbG P w K mg base (k + 1) f [] (spIK K (istar (initOf (n + 2) N.length sv) n)) := by
  obtain ⟨oc, od, dV, kV, doc, pm, an, cdv, ct, osl, rfl, lk, hcd, hD, _⟩ := F.ex
  have eD : dV = .none := by
    rcases hD with ⟨_, rfl⟩ | ⟨e, _⟩
    · rfl
    · exact (e rfl).elim
  subst eD
  have hN : (ps ++ [pv]).length ≤ N.length := by
    have := congrArg List.length SC.pre
    rw [List.length_take] at this
    omega
  have R : FnR P w K mg base (CV P w) (k + 1) f (fun vs H Q E => ∃ ws rest, vs = ws ++ rest ∧ ws.length = ps.length ∧ rest.length ≤ sizeLine ∧ ∀ p, H p = Option.none → spI K (initOf (n + 2) N.length sv) (ws ++ [V.ref p]) (upd H p (.tup rest)) Q E) := by
    intro A outer s H us vs Q E hr e0 r ⟨ws, rest, ev, hl, hz, hq⟩
    subst ev
    obtain ⟨u1, u2, eu, r1, r2⟩ := StX.vals_split r
    subst eu
    have fr : H s.heap.objs.size = Option.none := e0.hok.fresh (Nat.le_refl _)
    have l1 : u1.length = ps.length := r1.length.symm.trans hl
    refine StX.run_bnd (CX := CV P w) lk hcd SC hr.toRoom e0 (G := fun xs H2 => ∃ p, H p = Option.none ∧ xs = ws ++ [V.ref p] ∧ H2 = upd H p (.tup rest)) (fun A' Ex Q' h => ?_) fun s2 H2 xs ⟨p, hp, ex, eH⟩ hr2 => ?_
    · rw [hbi kV doc pm an cdv ct u1 u2 l1]
      refine wpAny_bind (wpAny_newTuple (wpAny_pure ?_) (by rw [← r2.length]; exact hz))
      have ok : ObjOk P w (upd H s.heap.objs.size (.tup rest)) (s.heap.push ({ cls := .type "tuple", data := .seq u2.toArray } : Obj)) s.heap.objs.size (.tup rest) := ⟨hz, u2, r2, ⟨_, Heap.get?_push_size _ rfl, rfl, _, rfl⟩⟩
      have un := StX.un_laid (fs := frs outer) (s := s) (o := ({ cls := .type "tuple", data := .seq u2.toArray } : Obj)) (u := .tup rest) fr
      have z := h _ _ (ws ++ [V.ref s.heap.objs.size]) (u1 ++ [Value.ref s.heap.objs.size]) (StX.env0_laid e0 ok) un rfl (fun e s' => StX.cxUp outer s H _ _ E e s' un (fun b o q => Heap.get?_push_of_some _ q) rfl)
        (r1.append (.cons rfl .nil)) (by rw [List.length_append, List.length_append, hl] <;> rfl) ⟨_, fr, rfl, rfl⟩
      rw [List.zip_append l1.symm] at z
      exact z
    · subst ex eH
      have tk : L2.Takes (cxOf (CV P w) P w K mg base N qual scope f cdv A outer s2 (upd H p (.tup rest)) E) (fun cls d _ H => E cls d H) := L2.takes_of rfl rfl rfl rfl
      obtain ⟨t, _, pt, g⟩ := hb cdv A outer s2 _ E ⟨hr2, hr.gd⟩ ⟨PassesOwn.leaving, tk⟩
      refine ⟨t, pt, init_body (X := cxOf (CV P w) P w K mg base N qual scope f cdv A outer s2 (upd H p (.tup rest)) E) hN g ?_⟩
      have e : (ps ++ [pv]).length = n + 2 := by rw [List.length_append, hn]; rfl
      rw [e]; exact hq p hp
  rw [hn] at R
  exact cb_star R
end
end VI
end
section
set_option Elab.async false
set_option linter.all false
set_option maxRecDepth 100000
set_option maxHeartbeats 2000000
/-! V30: isinstance by own classes; own classes as values. -/
namespace VI
open PySem PySem.Spec PyProof.Rows L2

/-- an own class, the own classes that it is one of -/
abbrev IsTab := List (Str × List Str)
def tys7 : List String := ["NoneType", "bool", "int", "str", "list", "tuple", "dict"]
def isTabB (K : PySem.W.Frag) (tab : IsTab) : Bool := He.eqO (PySem.W.specialIn K (.builtin "object.__class__") "__get__") (some (some (.builtin "getset_descriptor.__get__"))) && (decide (PySem.W.takesIn K (.builtin "object.__class__") = some true) && tab.all fun p =>
  (He.Fa.cls p.1).ok K && (He.eqO (PySem.W.findIn K (.ref (He.ga K p.1)) "__class__") (some (some (.builtin "object.__class__"))) && (decide (PySem.W.mroIn K (He.ga K p.1) (.type "object") = some true) &&
    ((tab.all fun r => decide (PySem.W.kitOne K (.ref (He.ga K p.1)) (.ref (He.ga K r.1)) = some (p.2.contains r.1))) && tys7.all fun n =>
      decide (PySem.W.kitOne K (.type n) (.ref (He.ga K p.1)) = some false) && decide (PySem.W.kitOne K (.ref (He.ga K p.1)) (.type n) = some false)))))
structure IsOk (K : PySem.W.Frag) (tab : IsTab) : Prop where
  get : PySem.W.specialIn K (.builtin "object.__class__") "__get__" = some (some (.builtin "getset_descriptor.__get__"))
  tak : PySem.W.takesIn K (.builtin "object.__class__") = some true
  cls : ∀ p ∈ tab, Cls K (He.ga K p.1) ∧ PySem.W.findIn K (.ref (He.ga K p.1)) "__class__" = some (some (.builtin "object.__class__")) ∧ PySem.W.mroIn K (He.ga K p.1) (.type "object") = some true
  two : ∀ p ∈ tab, ∀ r ∈ tab, PySem.W.kitOne K (.ref (He.ga K p.1)) (.ref (He.ga K r.1)) = some (p.2.contains r.1)
  up : ∀ p ∈ tab, ∀ n ∈ tys7, PySem.W.kitOne K (.type n) (.ref (He.ga K p.1)) = some false
  down : ∀ p ∈ tab, ∀ n ∈ tys7, PySem.W.kitOne K (.ref (He.ga K p.1)) (.type n) = some false
theorem isOk_of {K : PySem.W.Frag} {tab : IsTab} (h : isTabB K tab = true) : IsOk K tab := by
  obtain ⟨h1, h⟩ := He.ba h
  obtain ⟨h2, h⟩ := He.ba h
  have h := List.all_eq_true.mp h
  refine ⟨He.eqO_ok h1, of_decide_eq_true h2, fun p hp => ?_, fun p hp r hr => ?_, fun p hp n hn => ?_, fun p hp n hn => ?_⟩
  all_goals
    obtain ⟨a1, a⟩ := He.ba (h p hp)
    obtain ⟨a2, a⟩ := He.ba a
    obtain ⟨a3, a⟩ := He.ba a
    obtain ⟨a4, a5⟩ := He.ba a
  · exact ⟨He.cls_ok a1, He.eqO_ok a2, of_decide_eq_true a3⟩
  · exact of_decide_eq_true (List.all_eq_true.mp a4 r hr)
  · exact of_decide_eq_true (He.ba (List.all_eq_true.mp a5 n hn)).1
  · exact of_decide_eq_true (He.ba (List.all_eq_true.mp a5 n hn)).2
def fIsO (tab : IsTab) : List D → Option Va
  | [p, .fn d] => (match p, tab.lookup d with
    | .ins c _, some _ => (match tab.lookup c with
      | some l => some (.im (.bl (l.contains d)))
      | none => none)
    | p, some _ => (match tyN p with
      | some _ => some (.im (.bl false))
      | none => none)
    | _, none => none)
  | [.ins c _, .ty n] => if n ∈ tys7 then (match tab.lookup c with
    | some _ => some (.im (.bl false))
    | none => none) else none
  | l => fIsi l
section
variable {K : PySem.W.Frag} {tab : IsTab}
theorem IsOk.ins (o : IsOk K tab) {al : List Addr} {F H : Hp} {c : Str} {fs : List (Str × D)} {w : V} {l : List Str} (hs : Sub F H) (r : Rdr K al F H (.ins c fs) w) (h : tab.lookup c = some l) : TyX K H w (.ref (He.ga K c)) := by
  obtain ⟨a, dx, vs, rfl, h1, _⟩ := r.ins hs
  obtain ⟨c1, c2, c3⟩ := o.cls _ (PySem.mem_of_lookup h)
  exact .base (.ins h1 c1 c2 o.get o.tak c3)
theorem bls_isO (o : IsOk K tab) : BlS K (rIsi K) (fIsO tab) := fun E F al H σ s ws ps va rel rr e Q hQ => by
  unfold fIsO at e
  split at e
  · rename_i p d
    obtain ⟨w, u, rfl, r, q⟩ := rr.two
    have eu : u = .ref (He.ga K d) := by
      rcases q with ⟨q, _⟩ | ⟨a, ho, ob, e, h1, h2, h3⟩
      · cases q; rfl
      · cases ob <;> cases h3
    subst eu
    split at e
    · rename_i c fs l2 hd
      split at e
      · rename_i l hc
        cases e
        exact ⟨w, _, _, _, _, rfl, .own _, o.ins rel.sub r hc, o.two _ (PySem.mem_of_lookup hc) _ (PySem.mem_of_lookup hd), fin_d rel (.bl _) hQ⟩
      · cases e
    · rename_i l2 hd
      split at e
      · rename_i t ht
        cases e
        obtain ⟨ty, hm⟩ := tyN_ok rel.sub r ht
        refine ⟨w, _, _, _, false, rfl, .own _, ty, o.up _ (PySem.mem_of_lookup hd) t ?_, fin_d rel (.bl false) hQ⟩
        unfold tys7
        rcases hm with rfl | rfl | rfl | rfl | rfl | rfl | rfl <;> simp
      · cases e
    · cases e
  · rename_i c fs n
    by_cases hn : n ∈ tys7
    · rw [if_pos hn] at e
      split at e
      · rename_i l hc
        cases e
        obtain ⟨w, u, rfl, r, q⟩ := rr.two
        rcases q with ⟨q, _⟩ | ⟨a, ho, ob, e, h1, h2, h3⟩
        · cases q
          exact ⟨w, _, _, _, false, rfl, .ty n, o.ins rel.sub r hc, o.down _ (PySem.mem_of_lookup hc) n hn, fin_d rel (.bl false) hQ⟩
        · cases ob <;> cases h3
      · cases e
    · rw [if_neg hn] at e; cases e
  · exact bls_isi E F al H σ s ws ps va rel rr e Q hQ
variable {X : Cx} {W : Wx}
theorem se_isO {x : Str} {p pos : Pos} {a b : Expr} {th : TA} {m : M (List Va)} (o : IsOk X.K tab) (hm : X.mg "isinstance" = none) (ha : SV X K W [a, b] th m) (hx : x = ("isinstance" : Str) := by rfl) (hg : Gl X "isinstance" := by rfl)
    (he : starEach [a, b] X.env = (false, eval a X.env) :: starEach [b] X.env := by rfl) (hpl : (backTo pos (starEach [b] X.env)).any (·.1) = false := by rfl) : SE X K W (.Call (.Name x p) [a, b] [] pos) (tCB (rIsi K) th) (evBl (fIsO tab) m) := by
  subst hx
  obtain ⟨rfl, _⟩ := id ha
  exact se_blt call_isi (bls_isO o) PyProof.Rows.boot_isinstance hm ha hg (by decide) (by decide) he hpl
/-- an own class (a def) of the top as a value -/
theorem se_glo {x : Str} {pos : Pos} (hm : X.mg x = some (.ref (He.ga K x))) (hK : X.K = K := by rfl) (hg : Gl X x := by rfl) (hd : (x == ("__debug__" : Str)) = false := by decide) : SE X K W (.Name x pos) (tC (.ref (He.ga K x))) (evC (.fn x)) :=
  ⟨hK, pe_glob hg hm rfl hd, good_c fun _ _ => .fn x⟩
end
end VI
end
section
set_option Elab.async false
set_option linter.all false
set_option maxRecDepth 100000
set_option maxHeartbeats 2000000
/-! V31: comparisons by own methods. -/
namespace VI
open PySem PySem.Spec PyProof.Rows L2

/-! ### running it -/
abbrev CmpO (X : Cx) (k : Nat) (nm : Str) (Ok : Addr → Prop) (So : Addr → SpK) : Prop := ∀ C, Ok C → ∃ g, PySem.W.findIn X.K (.ref C) nm = some (some (.ref g)) ∧ PySem.W.isFn X.K (.ref g) = true ∧ CbG X.prog X.w X.K X.mg X.base k g [] (So C)
/-- the own comparison, its answer a bool -/
def rOwn (K : PySem.W.Frag) (Ok : Addr → Prop) (So : Addr → SpK) (E : XK) : R2 := fun x y H Q => ∃ a C dx us t, x = .ref a ∧ H a = some (.ins C dx us) ∧ Ok C ∧ TyX K H y t ∧ PySem.W.notFirst K C t = true ∧ So C [x, y] [] H (fun v H' => (∃ b, v = .bl b) ∧ Q v H') E
def tCmpX (K : PySem.W.Frag) (r : R2) (Ok : Addr → Prop) (So : Addr → SpK) (E : L2.St → XK) (ta tb : TE) : TE := fun σ H Q => ta σ H fun x H1 => tb σ H1 fun y H2 => r x y H2 Q ∨ rOwn K Ok So (E σ) x y H2 Q
section
variable {X : Cx} {k : Nat} {nm : Str} {Ok : Addr → Prop} {So : Addr → SpK} {E : L2.St → XK} {op : CmpOp} {a b : Expr} {ta tb : TE} {pos : Pos} {r : R2}
theorem run_own (hC : CmpO X k (cmpInfo op).2.1 Ok So) (hr : Room k X.A) {σ : L2.St} (hx : PassesAt (CV X.prog X.w) X σ (E σ)) {pins : List (Addr × Obj)} {H : Hp} {s : Shared} {x y : V} {u v : Value} {Q : VK} (I : Inv X pins σ H s) (rx : RelV x u) (ry : RelV y v) (h : rOwn X.K Ok So (E σ) x y H Q) :
    wpAny (model X.prog X.w) X.A (richCompare op u v) (fun z s' => EP X pins σ (fun w H' => (∃ c, w = .bl c) ∧ Q w H') z s') X.xe s := by
  obtain ⟨p, C, dx, us, t, rfl, h1, ok, ty, nf, h⟩ := h
  obtain rfl : u = Value.ref p := rx
  obtain ⟨g, f1, f2, F⟩ := hC C ok
  obtain ⟨mA, O, _⟩ := ins_get I.hok h1
  obtain ⟨od, J, _⟩ := O.look
  obtain ⟨m, hF⟩ := I.fr
  obtain ⟨Pz, Z, pz, _⟩ := kit_of I ry ty
  refine PySem.W.cmp_K (op := op) (tb := t) hr.units0 hF I.ok.mod.kin J (Z.ty _ _ I.kIn pz) nf f1 f2 ?_
  refine PySem.wpAny_call (PySem.codeAny_mono (F X.A X.stack s H [.ref p, v] [] [.ref p, y] [] _ (E σ) hr I.env0 (.cons rfl (.cons ry .nil)) .nil rfl h) fun out s' z => ?_)
  match out, z with
  | .error e, z => exact hx pins H s e s' I z
  | .ok (.ret w), z =>
    obtain ⟨d, H', I', rd, ⟨c, ec⟩, q⟩ := I.after z
    subst ec
    cases rd
    exact ⟨.bl c, H', I', rfl, ⟨c, rfl⟩, q⟩
  | .ok .next, z => exact z.elim
  | .ok .brk, z => exact z.elim
  | .ok .cont, z => exact z.elim
theorem pe_cmpX (ho : OpR X (compareOp op) r) (hC : CmpO X k (cmpInfo op).2.1 Ok So) (hop : ∀ u v, compareOp op u v = richCompare op u v) (hr : Room k X.A) (hx : ∀ σ, PassesAt (CV X.prog X.w) X σ (E σ)) (ha : PE X a ta) (hb : PE X b tb) (hm : behindInMarks op b = false) :
    PE X (.Compare a [op] [b] pos) (tCmpX X.K r Ok So E ta tb) := by
  refine ⟨fun pins s σ H Q I h => ?_⟩
  refine wpAny_Compare1 (binT ha hb (R := fun x y H2 => r x y H2 Q ∨ rOwn X.K Ok So (E σ) x y H2 Q) I h fun v u s2 x y H2 I2 rx ry q => ?_) hm
  rcases q with q | q
  · exact ho pins s2 σ H2 x y v u Q I2 rx ry q
  · rw [hop]
    exact thn (run_own hC hr (hx σ) I2 rx ry q) fun z s' ⟨w, H', I', rw_, _, q⟩ => ⟨w, H', I', rw_, q⟩
theorem pt_cmpX (ho : OpR X (compareOp op) r) (hC : CmpO X k (cmpInfo op).2.1 Ok So) (hop : ∀ u v, compareOp op u v = richCompare op u v) (hr : Room k X.A) (hx : ∀ σ, PassesAt (CV X.prog X.w) X σ (E σ)) (ha : PE X a ta) (hb : PE X b tb) (hm : behindInMarks op b = false) :
    PT X (.Compare a [op] [b] pos) (tTest (tCmpX X.K r Ok So E ta tb)) := by
  refine ⟨fun pins s σ H Q I h => ?_⟩
  refine wpAny_isTrue_Compare1 (thn (ha.run pins s σ H _ I h) fun v s1 ⟨x, H1, I1, r1, q1⟩ => thn (hb.run pins s1 σ H1 _ I1 q1) fun u s2 ⟨y, H2, I2, r2, q2⟩ => ?_) hm
  have fin : ∀ {c : Value} {s3 : Shared}, EP X pins σ (fun w H' => ∃ k, w = .bl k ∧ Q k H') c s3 → wpAny (model X.prog X.w) X.A (truthy c) (fun k s4 => ∃ H', Inv X pins σ H' s4 ∧ Q k H') X.xe s3 := fun {c s3} ⟨z, H3, I3, r3, k, e, q3⟩ => by
    subst e
    cases r3
    exact wpAny_truthy_bool ⟨H3, I3, q3⟩
  rcases q2 with q2 | q2
  · exact thn (ho pins s2 σ H2 x y v u _ I2 r1 r2 q2) fun c s3 z => fin z
  · rw [hop]
    exact thn (run_own hC hr (hx σ) I2 r1 r2 q2) fun c s3 ⟨w, H', I', rw_, _, q⟩ => fin ⟨w, H', I', rw_, q⟩
end
end VI
end
section
set_option Elab.async false
set_option linter.all false
set_option maxRecDepth 100000
set_option maxHeartbeats 2000000
/-! V32: comparisons by own methods, as an expression's worth. -/
namespace VI
open PySem PySem.Spec PyProof.Rows L2

def nfB (K : PySem.W.Frag) (tab : IsTab) : Bool := tab.all fun p => (tab.all fun r => !(r.1 == p.1 || !r.2.contains p.1) || PySem.W.notFirst K (He.ga K p.1) (.ref (He.ga K r.1))) && tys7.all fun n => PySem.W.notFirst K (He.ga K p.1) (.type n)
structure NfOk (K : PySem.W.Frag) (tab : IsTab) : Prop where
  two : ∀ p ∈ tab, ∀ r ∈ tab, (r.1 == p.1 || !r.2.contains p.1) = true → PySem.W.notFirst K (He.ga K p.1) (.ref (He.ga K r.1)) = true
  ty : ∀ p ∈ tab, ∀ n ∈ tys7, PySem.W.notFirst K (He.ga K p.1) (.type n) = true
theorem nfOk_of {K : PySem.W.Frag} {tab : IsTab} (h : nfB K tab = true) : NfOk K tab := by
  have h := List.all_eq_true.mp h
  refine ⟨fun p hp r hr e => ?_, fun p hp n hn => List.all_eq_true.mp (He.ba (h p hp)).2 n hn⟩
  have q := List.all_eq_true.mp (He.ba (h p hp)).1 r hr
  rw [e] at q
  simpa using q
/-- the right operand is not asked first -/
def nfAt (tab : IsTab) (c : Str) (q : D) (s : S) : Bool := match clsAt q s with
  | some (c2, _) => (match tab.lookup c2 with
    | some l => c2 == c || !l.contains c
    | none => false)
  | none => (match rd (.im q) s with
    | some p => (tyN p).isSome
    | none => false)
def evCmpX (tbl : MTab) (tab : IsTab) (f : D → D → Option Va) (ea eb : M Va) : M Va := (ea >>= esc) >>= fun p => (eb >>= esc) >>= fun q => fun s => match clsAt p s with
  | some (c, _) => (match tbl.lookup c, tab.lookup c with
    | some g, some _ => if nfAt tab c q s = true then (match g [p, q] [] s.st with
      | .ok (.im (.bl b)) st => .ok (.im (.bl b)) { s with st := st }
      | .ex x st => .ex x { s with st := st }
      | _ => .no) else .no
    | _, _ => .no)
  | none => (match rd (.im p) s, rd (.im q) s with
    | some p', some q' => (match f p' q' with
      | some v => .ok v s
      | none => .no)
    | _, _ => .no)
section
variable {K : PySem.W.Frag} {tab : IsTab} {W : Wx} {tbl : MTab} {f : D → D → Option Va}
theorem nfAt_ok (o : IsOk K tab) (n : NfOk K tab) {E : Ent} {σ : L2.St} {s : S} {F H : Hp} {al : List Addr} {c : Str} {l : List Str} {q : D} {w : V} (rel : Rel K E F al H σ s) (v : Dat K al F q w) (hc : tab.lookup c = some l) (h : nfAt tab c q s = true) : ∃ t, TyX K H w t ∧ PySem.W.notFirst K (He.ga K c) t = true := by
  unfold nfAt at h
  split at h
  · rename_i c2 fs hq
    split at h
    · rename_i l2 h2
      obtain ⟨a, dx, vs, rfl, h1, _⟩ := clsAt_ok rel v hq
      obtain ⟨c1, c3, c4⟩ := o.cls _ (PySem.mem_of_lookup h2)
      exact ⟨_, .base (.ins h1 c1 c3 o.get o.tak c4), n.two _ (PySem.mem_of_lookup hc) _ (PySem.mem_of_lookup h2) h⟩
    · cases h
  · split at h
    · rename_i p hp
      obtain ⟨t, ht⟩ := Option.isSome_iff_exists.mp h
      obtain ⟨ty, hm⟩ := tyN_ok rel.sub (rd_ok (Hs := H) rel (va := .im q) v hp) ht
      refine ⟨_, ty, n.ty _ (PySem.mem_of_lookup hc) t ?_⟩
      unfold tys7
      rcases hm with rfl | rfl | rfl | rfl | rfl | rfl | rfl <;> simp
    · cases h
theorem good_cmpX {r : R2} {ta tb : TE} {ea eb : M Va} (o : IsOk K tab) (n : NfOk K tab) (hs : OpS K r f) (ga : GoodE K W ta ea) (gb : GoodE K W tb eb) : GoodE K W (tCmpX K r (OkT K tbl) (SoT K tbl) (WE W) ta tb) (evCmpX tbl tab f ea eb) := fun E F al H σ s rel => by
  refine Sat.bind (u := fun x H1 Q => tb σ H1 fun y H2 => r x y H2 Q ∨ rOwn K (OkT K tbl) (SoT K tbl) (WE W σ) x y H2 Q) VR.low (ga E F al H σ s rel).esc fun p s1 w1 F1 al1 H1 _ rel1 st1 v1 => ?_
  refine Sat.bind (u := fun y H2 Q => r w1 y H2 Q ∨ rOwn K (OkT K tbl) (SoT K tbl) (WE W σ) w1 y H2 Q) VR.low (gb E F1 al1 H1 σ s1 rel1).esc fun q s2 w2 F2 al2 H2 _ rel2 st2 v2 => ?_
  have v1 : Dat K al2 F2 p w1 := (show Dat K al1 F1 p w1 from v1).mono st2.gr
  have v2 : Dat K al2 F2 q w2 := v2
  cases hc : clsAt p s2 with
  | none =>
    simp only [hc]
    cases hx : rd (.im p) s2 with
    | none => exact True.intro
    | some p' =>
      cases hy : rd (.im q) s2 with
      | none => exact True.intro
      | some q' =>
        dsimp only
        cases hf : f p' q' with
        | none => exact True.intro
        | some va => exact fun Q hQ => .inl (hs E F2 al2 H2 σ s2 w1 w2 p' q' va rel2 (rd_ok (Hs := H2) rel2 (va := .im p) v1 hx) (rd_ok (Hs := H2) rel2 (va := .im q) v2 hy) hf Q hQ)
  | some r0 =>
    obtain ⟨c, fs⟩ := r0
    obtain ⟨a, dx, vs, rfl, h1, _⟩ := clsAt_ok rel2 v1 hc
    simp only [hc]
    cases hl : tbl.lookup c with
    | none => exact True.intro
    | some g =>
      cases ht : tab.lookup c with
      | none => exact True.intro
      | some l =>
        dsimp only
        by_cases hn : nfAt tab c q s2 = true
        · rw [if_pos hn]
          obtain ⟨t, ty, nf⟩ := nfAt_ok o n rel2 v2 ht hn
          have put : ∀ Q : VK, FrW K F2 al2 H2 (fun v H' => (∃ b, v = .bl b) ∧ Q v H') (WE W σ) (g [p, q] [] s2.st) → rOwn K (OkT K tbl) (SoT K tbl) (WE W σ) (.ref a) w2 H2 Q := fun Q z => ⟨a, _, dx, vs, t, rfl, h1, ⟨c, g, rfl, hl⟩, ty, nf, c, g, rfl, hl, F2, al2, s2.st, [p, q], [], rel2.g, .cons v1 (.cons v2 .nil), .nil, z⟩
          cases hg : g [p, q] [] s2.st with
          | no => exact True.intro
          | ex x st =>
            refine fun Q hQ => .inr (put Q ?_)
            rw [hg]
            intro cls dd F' al' H' gR ext z
            obtain ⟨r3, s3⟩ := rel2.call gR ext
            exact hQ cls dd F' al' H' r3 s3 z
          | ok v st =>
            cases v with
            | im d =>
              cases d with
              | bl b =>
                refine fun Q hQ => .inr (put Q ?_)
                rw [hg]
                intro w F' al' H' gR ext z
                obtain ⟨r3, s3⟩ := rel2.call gR ext
                cases (show Dat K al' F' (.bl b) w from z)
                exact ⟨⟨b, rfl⟩, hQ _ F' al' H' r3 s3 (.bl b)⟩
              | _ => exact True.intro
            | _ => exact True.intro
        · rw [if_neg hn]; exact True.intro
end
/-- the class c has the comparison nm, which does f -/
def CmpP (P : Program) (w : World) (K : PySem.W.Frag) (mg : Str → Option Value) (base : Heap) (k : Nat) (c nm : Str) (f : Fs2) : Prop := ∃ g, PySem.W.findIn K (.ref (He.ga K c)) nm = some (some (.ref g)) ∧ PySem.W.isFn K (.ref g) = true ∧ CbG P w K mg base k g [] (spC K f)
theorem CmpP.mono {P : Program} {w : World} {K : PySem.W.Frag} {mg : Str → Option Value} {base : Heap} {j k : Nat} {c nm : Str} {f : Fs2} (h : CmpP P w K mg base j c nm f) (hk : j ≤ k) : CmpP P w K mg base k c nm f := by
  obtain ⟨g, h1, h2, h3⟩ := h
  exact ⟨g, h1, h2, h3.mono hk⟩
section
variable {X : Cx} {W : Wx} {k : Nat} {nm : Str} {tbl : MTab} {tab : IsTab} {op : CmpOp} {a b : Expr} {pos : Pos} {r : R2} {K : PySem.W.Frag} {f : D → D → Option Va} {ta tb : TE} {ea eb : M Va}
theorem cmpO_of (h : ∀ c g, tbl.lookup c = some g → CmpP X.prog X.w X.K X.mg X.base k c nm g) : CmpO X k nm (OkT X.K tbl) (SoT X.K tbl) := by
  rintro C ⟨c, g, rfl, hl⟩
  obtain ⟨a, h1, h2, h3⟩ := h c g hl
  refine ⟨a, h1, h2, fun A outer s H us ws vs zs Q E hr e0 rv rz l ⟨c', g', ec, hl', q⟩ => ?_⟩
  obtain ⟨a', h1', h2', h3'⟩ := h c' g' hl'
  rw [ec, h1'] at h1
  cases h1
  exact h3' A outer s H us ws vs zs Q E hr e0 rv rz l q
theorem se_cmpX (o : IsOk K tab) (n : NfOk K tab) (ho : OpR X (compareOp op) r) (hs : OpS K r f) (h : ∀ c g, tbl.lookup c = some g → CmpP X.prog X.w K X.mg X.base k c (cmpInfo op).2.1 g) (hr : Room k X.A) (hx : ∀ σ, PassesAt (CV X.prog X.w) X σ (WE W σ)) (ha : SE X K W a ta ea) (hb : SE X K W b tb eb)
    (hop : ∀ u v, compareOp op u v = richCompare op u v := by intro u v; rfl) (hm : behindInMarks op b = false := by rfl) : SE X K W (.Compare a [op] [b] pos) (tCmpX K r (OkT K tbl) (SoT K tbl) (WE W) ta tb) (evCmpX tbl tab f ea eb) := by
  obtain ⟨rfl, pa, ga⟩ := ha
  obtain ⟨_, pb, gb⟩ := hb
  exact ⟨rfl, pe_cmpX ho (cmpO_of h) hop hr hx pa pb hm, good_cmpX o n hs ga gb⟩
theorem st_cmpX (o : IsOk K tab) (n : NfOk K tab) (ho : OpR X (compareOp op) r) (hs : OpS K r f) (h : ∀ c g, tbl.lookup c = some g → CmpP X.prog X.w K X.mg X.base k c (cmpInfo op).2.1 g) (hr : Room k X.A) (hx : ∀ σ, PassesAt (CV X.prog X.w) X σ (WE W σ)) (ha : SE X K W a ta ea) (hb : SE X K W b tb eb)
    (hop : ∀ u v, compareOp op u v = richCompare op u v := by intro u v; rfl) (hm : behindInMarks op b = false := by rfl) : ST X K W (.Compare a [op] [b] pos) (tTest (tCmpX K r (OkT K tbl) (SoT K tbl) (WE W) ta tb)) (evB (evCmpX tbl tab f ea eb)) := by
  obtain ⟨rfl, pa, ga⟩ := ha
  obtain ⟨_, pb, gb⟩ := hb
  exact ⟨rfl, pt_cmpX ho (cmpO_of h) hop hr hx pa pb hm, good_tt (good_cmpX o n hs ga gb)⟩
end
end VI
end
section
set_option Elab.async false
set_option linter.all false
set_option maxRecDepth 100000
set_option maxHeartbeats 2000000
/-! V33: != by an own ==. -/
namespace VI
open PySem PySem.Spec PyProof.Rows L2

theorem slot_ne : Slot "object" "__ne__" "object.__ne__" := .of (owner := "object") (n := "__ne__") (by rw [typeLookup_type, builtinLookup_eq_fast]; kernel_rfl) (by decide +kernel) (by decide +kernel) (by decide +kernel)
  (by first | exact .inl (by decide +kernel) | exact .inr (by decide +kernel)) (by rw [isSubtype_type]; kernel_rfl)
section
variable {prog : Program} {w : World} {A : Around} {E : Value → Shared → Prop} {s : Shared} {K : PySem.W.Frag} {x C f L : Addr} {b tb : Value} {ox : Obj} {od : Option Obj}
open PySem.W in
theorem body_ne (hu : A.units < cLine) (X : K.In s.heap) (I : InstAt s.heap x ox C od) (he : findIn K (.ref C) "__eq__" = some (some (.ref f))) (hf : isFn K (.ref f) = true) {Q : Fin → Shared → Prop}
    (h : wpAny (model prog w) A (call (.ref f) [.ref x, b]) (fun v s' => ∃ c, v = .bool c ∧ Q (.done (.ret (.bool (!c)))) s') E s) : wpAny (model prog w) A (Builtin.«object.__ne__» ⟨[.ref x, b], []⟩) Q E s := by
  unfold Builtin.«object.__ne__»
  repeat (first
    | with_reducible refine wpAny_cRoomFor hu ?_
    | (refine wpAny_bind (m := callSpecialIfBound? (.ref x) (Str.ofString "__eq__") [b])
        (ifBound_K X I he hf (wpAny_mono h (fun r s' hr => by
          obtain ⟨c, rfl, hq⟩ := hr
          repeat (first | exact hq | exact wpAny_pure hq | exact wpAny_truthy_bool hq | (refine wpAny_bind (m := truthy (.bool _)) (wpAny_truthy_bool ?_)) | wp_step)) fun _ _ e => e)))
    | wp_step)
open PySem.W in
theorem try_ne (hu : A.units + 1 < cLine) (X : K.In s.heap) (I : InstAt s.heap x ox C od) (hn : findIn K (.ref C) "__ne__" = some (some (.builtin "object.__ne__"))) (ho : subIn K (.ref C) (.type "object") = some true) (he : findIn K (.ref C) "__eq__" = some (some (.ref f))) (hf : isFn K (.ref f) = true)
    {Q : Value → Shared → Prop} (h : wpAny (model prog w) A.in1 (call (.ref f) [.ref x, b]) (fun v s' => ∃ c, v = .bool c ∧ Q (.bool (!c)) s') E s) :
    wpAny (model prog w) A (tryCompare (.ref x) "__ne__" b) (fun r s' => ∃ v, r = some v ∧ Q v s') E s := by
  have one : wpAny (model prog w) A (call (.builtin "object.__ne__") [.ref x, b]) (fun v s' => ∃ c, v = .bool c ∧ Q (.bool c) s') E s := by
    refine wpAny_call (codeAny_call_builtin slot_ne.plain PySem.F.cmpEntry_ne (check_slot PySem.F.cmpKind_ne PySem.F.cmpSplit_ne (I.type.andThen (looks_subIn X ho)) (PySem.F.cmpArgs_ne _ _) (body_ne (A := A.in1) hu X I he hf (wpAny_mono h (fun v s' z => ?_) fun _ _ z => z))))
    obtain ⟨c, e, q⟩ := z
    exact ⟨c, e, _, rfl, q⟩
  unfold tryCompare
  refine wpAny_bind ?_
  simp only [callSpecialIfBound?, bindSpecialIfBound?]
  refine wpAny_holding (wpAny_bind (wpAny_bind (wpAny_bind (I.type.here ((looks_findIn X hn).here ?_)))))
  simp only [slot_ne.bind]
  refine wpAny_bind (wpAny_askSetting (wpAny_ite ?_))
  have fin : ∀ {R : Option Value → Shared → Prop}, (∀ c s', Q (.bool c) s' → R (some (.bool c)) s') → wpAny (model prog w) A (call (.builtin "object.__ne__") ([.ref x] ++ [b]) >>= fun v => pure (some v)) R E s := fun hR => wpAny_bind (wpAny_mono one (fun v s' ⟨c, e, q⟩ => by subst e; exact wpAny_pure (hR c s' q)) fun _ _ z => z)
  split
  · exact wpAny_bind (wpAny_pure (wpAny_pure (by exact fin fun c s' q => wpAny_pure ⟨_, rfl, q⟩)))
  · exact wpAny_tryCatch (wpAny_bind (wpAny_pure (wpAny_pure (by exact fin fun c s' q => wpAny_pure ⟨_, rfl, q⟩))))
end
end VI
end
section
set_option Elab.async false
set_option linter.all false
set_option maxRecDepth 100000
set_option maxHeartbeats 2000000
/-! V34: != by an own ==, as an expression's worth (printed by mk34.py). -/
namespace VI
open PySem PySem.Spec PyProof.Rows L2

abbrev CmpN (X : Cx) (k : Nat) (Ok : Addr → Prop) (So : Addr → SpK) : Prop := ∀ C, Ok C → ∃ g, (PySem.W.findIn X.K (.ref C) "__ne__" = some (some (.builtin "object.__ne__")) ∧ PySem.W.subIn X.K (.ref C) (.type "object") = some true) ∧ PySem.W.findIn X.K (.ref C) "__eq__" = some (some (.ref g)) ∧ PySem.W.isFn X.K (.ref g) = true ∧ CbG X.prog X.w X.K X.mg X.base k g [] (So C)
def rOwnN (K : PySem.W.Frag) (Ok : Addr → Prop) (So : Addr → SpK) (E : XK) : R2 := fun x y H Q => ∃ a C dx us t, x = .ref a ∧ H a = some (.ins C dx us) ∧ Ok C ∧ TyX K H y t ∧ PySem.W.notFirst K C t = true ∧ So C [x, y] [] H (fun v H' => ∃ b, v = .bl b ∧ Q (.bl (!b)) H') E
def tCmpN (K : PySem.W.Frag) (r : R2) (Ok : Addr → Prop) (So : Addr → SpK) (E : L2.St → XK) (ta tb : TE) : TE := fun σ H Q => ta σ H fun x H1 => tb σ H1 fun y H2 => r x y H2 Q ∨ rOwnN K Ok So (E σ) x y H2 Q
section
variable {X : Cx} {k : Nat} {Ok : Addr → Prop} {So : Addr → SpK} {E : L2.St → XK} {a b : Expr} {ta tb : TE} {pos : Pos} {r : R2}
open PySem.W in
theorem ne_K {prog : Program} {w : World} {A : Around} {Ex : Value → Shared → Prop} {s : Shared} {K : PySem.W.Frag} {x C f : Addr} {b tb : Value} {ox : Obj} {od : Option Obj} {Q : Value → Shared → Prop} (hu : A.units + 1 < cLine) (X : K.In s.heap) (I : InstAt s.heap x ox C od) (hb : Looks (model prog w) s.heap (typeOf b) tb) (hf1 : notFirst K C tb = true)
    (hn : findIn K (.ref C) "__ne__" = some (some (.builtin "object.__ne__"))) (ho : subIn K (.ref C) (.type "object") = some true) (he : findIn K (.ref C) "__eq__" = some (some (.ref f))) (hf : isFn K (.ref f) = true)
    (h : wpAny (model prog w) A.in1 (call (.ref f) [.ref x, b]) (fun v s' => ∃ c, v = .bool c ∧ Q (.bool (!c)) s') Ex s) : wpAny (model prog w) A (richCompare .NotEq (.ref x) b) Q Ex s := by
  have one := try_ne hu X I hn ho he hf h
  unfold richCompare
  simp only [oneThing_ref]
  refine wpAny_holding (wpAny_bind (wpAny_cRoomFor (Nat.lt_of_succ_lt hu) ?_))
  refine wpAny_bind (I.type.here (wpAny_bind (hb.here ?_)))
  split
  · rename_i q
    have e : subIn K tb (.ref C) = some false := by
      cases Bool.or_eq_true_iff.mp hf1 with
      | inl e => rw [beq_iff_eq.mp e] at q; simp at q
      | inr e => exact beq_iff_eq.mp e
    refine wpAny_bind ((looks_subIn X e).here ?_)
    simp only [Bool.false_eq_true, if_false]
    exact wpAny_bind (wpAny_mono one (fun r s' ⟨v, e, z⟩ => by subst e; exact wpAny_pure z) fun _ _ z => z)
  · refine wpAny_bind (wpAny_pure ?_)
    simp only [Bool.false_eq_true, if_false]
    exact wpAny_bind (wpAny_mono one (fun r s' ⟨v, e, z⟩ => by subst e; exact wpAny_pure z) fun _ _ z => z)
theorem run_ownN (hC : CmpN X k Ok So) (hr : Room (k + 1) X.A) {σ : L2.St} (hx : PassesAt (CV X.prog X.w) X σ (E σ)) {pins : List (Addr × Obj)} {H : Hp} {s : Shared} {x y : V} {u v : Value} {Q : VK} (I : Inv X pins σ H s) (rx : RelV x u) (ry : RelV y v) (h : rOwnN X.K Ok So (E σ) x y H Q) :
    wpAny (model X.prog X.w) X.A (richCompare .NotEq u v) (fun z s' => EP X pins σ (fun w H' => (∃ c, w = .bl c) ∧ Q w H') z s') X.xe s := by
  obtain ⟨p, C, dx, us, t, rfl, h1, ok, ty, nf, h⟩ := h
  obtain rfl : u = Value.ref p := rx
  obtain ⟨g, ⟨n1, n2⟩, f1, f2, F⟩ := hC C ok
  obtain ⟨mA, O, _⟩ := ins_get I.hok h1
  obtain ⟨od, J, _⟩ := O.look
  obtain ⟨Pz, Z, pz, _⟩ := kit_of I ry ty
  refine ne_K (by have := hr.un; omega) I.kIn J (Z.ty _ _ I.kIn pz) nf n1 n2 f1 f2 ?_
  have e0 : Env0 X.prog X.w X.K X.mg X.base X.A.in1 X.stack s H := by
    have e := I.env0
    exact ⟨e.frames, e.mod, e.bs, e.bsz, e.funs, e.frf, e.hok, e.bare⟩
  refine PySem.wpAny_call (PySem.codeAny_mono (F X.A.in1 X.stack s H [.ref p, v] [] [.ref p, y] [] _ (E σ) hr.in1 e0 (.cons rfl (.cons ry .nil)) .nil rfl h) fun out s' z => ?_)
  match out, z with
  | .error e, z => exact hx pins H s e s' I z
  | .ok (.ret w), z =>
    obtain ⟨d, H', I', rd, c, ec, q⟩ := I.after z
    subst ec
    cases rd
    exact ⟨c, rfl, .bl (!c), H', I', rfl, ⟨_, rfl⟩, q⟩
  | .ok .next, z => exact z.elim
  | .ok .brk, z => exact z.elim
  | .ok .cont, z => exact z.elim
theorem pe_cmpN (ho : OpR X (compareOp .NotEq) r) (hC : CmpN X k Ok So) (hr : Room (k + 1) X.A) (hx : ∀ σ, PassesAt (CV X.prog X.w) X σ (E σ)) (ha : PE X a ta) (hb : PE X b tb) (hm : behindInMarks .NotEq b = false) :
    PE X (.Compare a [.NotEq] [b] pos) (tCmpN X.K r Ok So E ta tb) := by
  refine ⟨fun pins s σ H Q I h => ?_⟩
  refine wpAny_Compare1 (binT ha hb (R := fun x y H2 => r x y H2 Q ∨ rOwnN X.K Ok So (E σ) x y H2 Q) I h fun v u s2 x y H2 I2 rx ry q => ?_) hm
  rcases q with q | q
  · exact ho pins s2 σ H2 x y v u Q I2 rx ry q
  · exact thn (run_ownN hC hr (hx σ) I2 rx ry q) fun z s' ⟨w, H', I', rw_, _, q⟩ => ⟨w, H', I', rw_, q⟩
theorem pt_cmpN (ho : OpR X (compareOp .NotEq) r) (hC : CmpN X k Ok So) (hr : Room (k + 1) X.A) (hx : ∀ σ, PassesAt (CV X.prog X.w) X σ (E σ)) (ha : PE X a ta) (hb : PE X b tb) (hm : behindInMarks .NotEq b = false) :
    PT X (.Compare a [.NotEq] [b] pos) (tTest (tCmpN X.K r Ok So E ta tb)) := by
  refine ⟨fun pins s σ H Q I h => ?_⟩
  refine wpAny_isTrue_Compare1 (thn (ha.run pins s σ H _ I h) fun v s1 ⟨x, H1, I1, r1, q1⟩ => thn (hb.run pins s1 σ H1 _ I1 q1) fun u s2 ⟨y, H2, I2, r2, q2⟩ => ?_) hm
  have fin : ∀ {c : Value} {s3 : Shared}, EP X pins σ (fun w H' => ∃ k, w = .bl k ∧ Q k H') c s3 → wpAny (model X.prog X.w) X.A (truthy c) (fun k s4 => ∃ H', Inv X pins σ H' s4 ∧ Q k H') X.xe s3 := fun {c s3} ⟨z, H3, I3, r3, k, e, q3⟩ => by
    subst e
    cases r3
    exact wpAny_truthy_bool ⟨H3, I3, q3⟩
  rcases q2 with q2 | q2
  · exact thn (ho pins s2 σ H2 x y v u _ I2 r1 r2 q2) fun c s3 z => fin z
  · exact thn (run_ownN hC hr (hx σ) I2 r1 r2 q2) fun c s3 ⟨w, H', I', rw_, _, q⟩ => fin ⟨w, H', I', rw_, q⟩
end
def evCmpN (tbl : MTab) (tab : IsTab) (f : D → D → Option Va) (ea eb : M Va) : M Va := (ea >>= esc) >>= fun p => (eb >>= esc) >>= fun q => fun s => match clsAt p s with
  | some (c, _) => (match tbl.lookup c, tab.lookup c with
    | some g, some _ => if nfAt tab c q s = true then (match g [p, q] [] s.st with
      | .ok (.im (.bl b)) st => .ok (.im (.bl (!b))) { s with st := st }
      | .ex x st => .ex x { s with st := st }
      | _ => .no) else .no
    | _, _ => .no)
  | none => (match rd (.im p) s, rd (.im q) s with
    | some p', some q' => (match f p' q' with
      | some v => .ok v s
      | none => .no)
    | _, _ => .no)
section
variable {K : PySem.W.Frag} {tab : IsTab} {W : Wx} {tbl : MTab} {f : D → D → Option Va}
theorem good_cmpN {r : R2} {ta tb : TE} {ea eb : M Va} (o : IsOk K tab) (n : NfOk K tab) (hs : OpS K r f) (ga : GoodE K W ta ea) (gb : GoodE K W tb eb) : GoodE K W (tCmpN K r (OkT K tbl) (SoT K tbl) (WE W) ta tb) (evCmpN tbl tab f ea eb) := fun E F al H σ s rel => by
  refine Sat.bind (u := fun x H1 Q => tb σ H1 fun y H2 => r x y H2 Q ∨ rOwnN K (OkT K tbl) (SoT K tbl) (WE W σ) x y H2 Q) VR.low (ga E F al H σ s rel).esc fun p s1 w1 F1 al1 H1 _ rel1 st1 v1 => ?_
  refine Sat.bind (u := fun y H2 Q => r w1 y H2 Q ∨ rOwnN K (OkT K tbl) (SoT K tbl) (WE W σ) w1 y H2 Q) VR.low (gb E F1 al1 H1 σ s1 rel1).esc fun q s2 w2 F2 al2 H2 _ rel2 st2 v2 => ?_
  have v1 : Dat K al2 F2 p w1 := (show Dat K al1 F1 p w1 from v1).mono st2.gr
  have v2 : Dat K al2 F2 q w2 := v2
  cases hc : clsAt p s2 with
  | none =>
    simp only [hc]
    cases hx : rd (.im p) s2 with
    | none => exact True.intro
    | some p' =>
      cases hy : rd (.im q) s2 with
      | none => exact True.intro
      | some q' =>
        dsimp only
        cases hf : f p' q' with
        | none => exact True.intro
        | some va => exact fun Q hQ => .inl (hs E F2 al2 H2 σ s2 w1 w2 p' q' va rel2 (rd_ok (Hs := H2) rel2 (va := .im p) v1 hx) (rd_ok (Hs := H2) rel2 (va := .im q) v2 hy) hf Q hQ)
  | some r0 =>
    obtain ⟨c, fs⟩ := r0
    obtain ⟨a, dx, vs, rfl, h1, _⟩ := clsAt_ok rel2 v1 hc
    simp only [hc]
    cases hl : tbl.lookup c with
    | none => exact True.intro
    | some g =>
      cases ht : tab.lookup c with
      | none => exact True.intro
      | some l =>
        dsimp only
        by_cases hn : nfAt tab c q s2 = true
        · rw [if_pos hn]
          obtain ⟨t, ty, nf⟩ := nfAt_ok o n rel2 v2 ht hn
          have put : ∀ Q : VK, FrW K F2 al2 H2 (fun v H' => ∃ b, v = .bl b ∧ Q (.bl (!b)) H') (WE W σ) (g [p, q] [] s2.st) → rOwnN K (OkT K tbl) (SoT K tbl) (WE W σ) (.ref a) w2 H2 Q := fun Q z => ⟨a, _, dx, vs, t, rfl, h1, ⟨c, g, rfl, hl⟩, ty, nf, c, g, rfl, hl, F2, al2, s2.st, [p, q], [], rel2.g, .cons v1 (.cons v2 .nil), .nil, z⟩
          cases hg : g [p, q] [] s2.st with
          | no => exact True.intro
          | ex x st =>
            refine fun Q hQ => .inr (put Q ?_)
            rw [hg]
            intro cls dd F' al' H' gR ext z
            obtain ⟨r3, s3⟩ := rel2.call gR ext
            exact hQ cls dd F' al' H' r3 s3 z
          | ok v st =>
            cases v with
            | im d =>
              cases d with
              | bl b =>
                refine fun Q hQ => .inr (put Q ?_)
                rw [hg]
                intro w F' al' H' gR ext z
                obtain ⟨r3, s3⟩ := rel2.call gR ext
                cases (show Dat K al' F' (.bl b) w from z)
                exact ⟨b, rfl, hQ _ F' al' H' r3 s3 (.bl (!b))⟩
              | _ => exact True.intro
            | _ => exact True.intro
        · rw [if_neg hn]; exact True.intro
end
/-- the class c has the == that f does, and no own != -/
def CmpQ (P : Program) (w : World) (K : PySem.W.Frag) (mg : Str → Option Value) (base : Heap) (k : Nat) (c : Str) (f : Fs2) : Prop := ∃ g, (PySem.W.findIn K (.ref (He.ga K c)) "__ne__" = some (some (.builtin "object.__ne__")) ∧ PySem.W.subIn K (.ref (He.ga K c)) (.type "object") = some true) ∧ PySem.W.findIn K (.ref (He.ga K c)) "__eq__" = some (some (.ref g)) ∧ PySem.W.isFn K (.ref g) = true ∧ CbG P w K mg base k g [] (spC K f)
theorem CmpQ.mono {P : Program} {w : World} {K : PySem.W.Frag} {mg : Str → Option Value} {base : Heap} {j k : Nat} {c : Str} {f : Fs2} (h : CmpQ P w K mg base j c f) (hk : j ≤ k) : CmpQ P w K mg base k c f := by
  obtain ⟨g, h0, h1, h2, h3⟩ := h
  exact ⟨g, h0, h1, h2, h3.mono hk⟩
section
variable {X : Cx} {W : Wx} {k : Nat} {tbl : MTab} {tab : IsTab} {a b : Expr} {pos : Pos} {r : R2} {K : PySem.W.Frag} {f : D → D → Option Va} {ta tb : TE} {ea eb : M Va}
theorem cmpN_of (h : ∀ c g, tbl.lookup c = some g → CmpQ X.prog X.w X.K X.mg X.base k c g) : CmpN X k (OkT X.K tbl) (SoT X.K tbl) := by
  rintro C ⟨c, g, rfl, hl⟩
  obtain ⟨a, h0, h1, h2, h3⟩ := h c g hl
  refine ⟨a, h0, h1, h2, fun A outer s H us ws vs zs Q E hr e0 rv rz l ⟨c', g', ec, hl', q⟩ => ?_⟩
  obtain ⟨a', _, h1', h2', h3'⟩ := h c' g' hl'
  rw [ec, h1'] at h1
  cases h1
  exact h3' A outer s H us ws vs zs Q E hr e0 rv rz l q
theorem se_cmpN (o : IsOk K tab) (n : NfOk K tab) (ho : OpR X (compareOp .NotEq) r) (hs : OpS K r f) (h : ∀ c g, tbl.lookup c = some g → CmpQ X.prog X.w K X.mg X.base k c g) (hr : Room (k + 1) X.A) (hx : ∀ σ, PassesAt (CV X.prog X.w) X σ (WE W σ)) (ha : SE X K W a ta ea) (hb : SE X K W b tb eb)
    (hm : behindInMarks .NotEq b = false := by rfl) : SE X K W (.Compare a [.NotEq] [b] pos) (tCmpN K r (OkT K tbl) (SoT K tbl) (WE W) ta tb) (evCmpN tbl tab f ea eb) := by
  obtain ⟨rfl, pa, ga⟩ := ha
  obtain ⟨_, pb, gb⟩ := hb
  exact ⟨rfl, pe_cmpN ho (cmpN_of h) hr hx pa pb hm, good_cmpN o n hs ga gb⟩
theorem st_cmpN (o : IsOk K tab) (n : NfOk K tab) (ho : OpR X (compareOp .NotEq) r) (hs : OpS K r f) (h : ∀ c g, tbl.lookup c = some g → CmpQ X.prog X.w K X.mg X.base k c g) (hr : Room (k + 1) X.A) (hx : ∀ σ, PassesAt (CV X.prog X.w) X σ (WE W σ)) (ha : SE X K W a ta ea) (hb : SE X K W b tb eb)
    (hm : behindInMarks .NotEq b = false := by rfl) : ST X K W (.Compare a [.NotEq] [b] pos) (tTest (tCmpN K r (OkT K tbl) (SoT K tbl) (WE W) ta tb)) (evB (evCmpN tbl tab f ea eb)) := by
  obtain ⟨rfl, pa, ga⟩ := ha
  obtain ⟨_, pb, gb⟩ := hb
  exact ⟨rfl, pt_cmpN ho (cmpN_of h) hr hx pa pb hm, good_tt (good_cmpN o n hs ga gb)⟩
end
end VI
end
section
set_option Elab.async false
set_option linter.all false
set_option maxRecDepth 100000
set_option maxHeartbeats 2000000
/-! V35: statements that are never reached; a, b, c = x, y, z. -/
namespace VI
open PySem PySem.Spec L2

def svNever : Sx := fun _ => .no
def svPar3 (i j l : Nat) (m : M (List D)) : Sx := svLet m fun ds s => match ds with
  | [a, b, c] => .nx (setIm l c (setIm j b (setIm i a s)))
  | _ => .no
section
variable {X : Cx} {W : Wx} {K : PySem.W.Frag}
theorem ss_never {st : Stmt} (hK : X.K = K := by rfl) : SS X K W st tNever svNever := ⟨hK, ps_never, fun _ _ _ _ _ _ _ _ w => w.elim⟩
theorem ss_par3 (i j l : Nat) {x y z : Str} {a b c : Expr} {ta : TA} {m : M (List D)} {px py pz pt pos : Pos} {kt k2 pt2} (ha : SA X K W [a, b, c] ta m) (hN : X.N.Nodup) (hi : X.N[i]? = some x := by rfl) (hj : X.N[j]? = some y := by rfl) (hl : X.N[l]? = some z := by rfl) (hij : i ≠ j := by decide) (hil : i ≠ l := by decide) (hjl : j ≠ l := by decide)
    (hx : X.env.scope.names.lookup x = some .local := by rfl) (hy : X.env.scope.names.lookup y = some .local := by rfl) (hz : X.env.scope.names.lookup z = some .local := by rfl) (hc : X.calm = true := by rfl)
    (hw : swappedStores [.Tuple [.Name x px, .Name y py, .Name z pz] kt pt] (.Tuple [a, b, c] k2 pt2) X.env = pure (some [x, y, z]) := by rfl)
    (hs : swapsWithSole [.Tuple [.Name x px, .Name y py, .Name z pz] kt pt] (.Tuple [a, b, c] k2 pt2) pos.line X.env = pure false := by rfl) : SS X K W (.Assign [.Tuple [.Name x px, .Name y py, .Name z pz] kt pt] (.Tuple [a, b, c] k2 pt2) pos) (tPar3 i j l ta) (svPar3 i j l m) := by
  obtain ⟨hK, p, g⟩ := ha
  refine ⟨hK, ps_par3 hc hN hi hj hl hij hil hjl hx hy hz p hw hs, fun E F al H σ s En rel w => ?_⟩
  refine (g E F al H σ s rel).want (u := fun vs H1 => ∃ u v t, vs = [u, v, t] ∧ En.nx (((σ.set i (some u)).set j (some v)).set l (some t)) H1) w (fun ds s1 vs F1 al1 H1 hm r gr q w1 => ?_) fun _ _ _ _ _ h => h
  have q : DatL K al1 F1 ds vs := q
  split at w1
  · cases q with
    | cons q1 t1 => cases t1 with
      | cons q2 t2 => cases t2 with
        | cons q3 t3 =>
          cases t3
          exact ⟨_, _, _, rfl, w1 F1 al1 H1 _ (Rel.setIm (Rel.setIm (r.setIm i q1) j q2) l q3) .refl⟩
  · exact w1.elim
end
end VI
end
section
set_option Elab.async false
set_option linter.all false
set_option maxRecDepth 100000
set_option maxHeartbeats 2000000
/-! V36: the law's end, with VI.FnOk. -/
namespace VI
open PySem PySem.Spec PyProof.Rows L2

/-- the end's answer -/
abbrev EndQ (s1 : Shared) : Result → Shared → Prop := fun r s' => r = .ok (.ret (.bool true)) ∧ OldK s1.heap s'.heap ∧ s'.os = s1.os ∧ AllBare s'.gens
section
variable {P : Program} {w : World} {K : PySem.W.Frag} {mg mb : Str → Option Value} {CX : CXT} {k : Nat} {fa a : Addr} {fd : FuncData} {x : Str} {sp : Sp} {s1 : Shared} {vs : List Value} {ns : List Int}
abbrev scr (vs : List Value) : Obj := { cls := .type "list", data := .seq vs.toArray }
/-- at one abstract heap, that tracks at most the script -/
theorem end_at {H : Hp} (KX : K.In s1.heap) (g1 : s1.heap.Ns mainGlobals mg) (g2 : s1.heap.Ns builtinsNs mb) (g3 : ∀ y : Str, y ≠ "__name__" → mb y = bootBuiltins y) (g4 : s1.heap.NoLimit) (g5 : s1.gens = #[]) (ha : s1.heap.get? a = some (scr vs)) (hr : VI.Room k callerA)
    (F : ∀ base : Heap, K.In base → base.Ns mainGlobals mg → VI.FnOk P w K mg base CX k fa fd [x] sp) (hbind : ∀ (s : Shared) (u : Value), BindsTo s fd ⟨[u], []⟩ [(x, u)]) (hCX : ∀ H e s', CX [] H s1 (fun _ _ _ => False) e s' → False)
    (hO : Only H) (hs : sp [.ref a] H (fun v _ => v = .bl true) fun _ _ _ => False) (hok : HOk P w H s1.heap) (hA : ∀ c, H c ≠ none → c = a) (hK : H a ≠ none → K.lookup a = none) :
    PySem.codeAny (model P w) callerA (.call (.ref fa) ⟨[.ref a], []⟩) (EndQ s1) s1 := by
  have back : ∀ {c : Addr} {o : Obj}, s1.heap.get? c = some o → H c = none → (hidT s1.heap H).get? c = some o := fun e n => hidT_get e n
  have only : ∀ {c : Addr} {u : HO}, H c = some u → c = a := fun e => hA _ (by rw [e]; exact Option.some_ne_none _)
  have names : ∀ {c : Addr} {m : Str → Option Value}, s1.heap.Ns c m → (hidT s1.heap H).Ns c m := by
    rintro c m ⟨o, es, ep, e, dd, r⟩
    refine ⟨o, es, ep, back e ?_, dd, r⟩
    cases z : H c with
    | none => rfl
    | some u =>
      have z2 := only z
      subst z2
      rw [ha] at e
      cases e
      cases dd
  have inB : K.In (hidT s1.heap H) := by
    intro c o e
    refine back (KX c o e) ?_
    cases z : H c with
    | none => rfl
    | some u =>
      have z2 := only z
      subst z2
      rw [hK (by rw [z]; exact Option.some_ne_none _)] at e
      cases e
  obtain ⟨mc, q1, q2⟩ := g4
  have md : Mod K mg (hidT s1.heap H) := ⟨inB, names g1, ⟨mb, names g2, g3⟩, ⟨mc, names q1, q2⟩⟩
  have env : Env0 P w K mg (hidT s1.heap H) callerA [] s1 H := by
    refine ⟨rfl, md, fun c o e => of_hidT e, Nat.le_of_eq (hidT_size _ _), True.intro, fun c hc => ?_, hok, .of_eq g5⟩
    have z : c ∈ ([] : List Addr) := hc
    cases z
  refine PySem.codeAny_mono ((F _ inB (names g1)).run callerA [] s1 H ⟨[.ref a], []⟩ [.ref a] [.ref a] _ _ hr env (hbind s1 (.ref a)) (.cons rfl .nil) hs) fun r s' z => ?_
  match r, z with
  | .error e, z => exact (hCX H e s' z).elim
  | .ok .next, z => exact z.elim
  | .ok .brk, z => exact z.elim
  | .ok .cont, z => exact z.elim
  | .ok (.ret u), ⟨v, H2, os, bare, un, ok2, rv, q⟩ =>
    obtain rfl : v = .bl true := q
    obtain rfl : u = Value.bool true := rv
    refine ⟨rfl, OldK.of_keep fun c o e => ?_, os, bare⟩
    cases z : H c with
    | none => exact un.keep c o e z (fun t => by have t : c ∈ ([] : List Addr) := t; cases t) (fun t => by cases t)
    | some u =>
      rcases hO c with t | ⟨ob, xs, t⟩
      · rw [z] at t; cases t
      · have e1 := (hok c _ t).1
        rw [e] at e1
        cases e1
        exact (ok2 c _ (un.frzs c _ _ t)).1
theorem end_call (KX : K.In s1.heap) (g1 : s1.heap.Ns mainGlobals mg) (g2 : s1.heap.Ns builtinsNs mb) (g3 : ∀ y : Str, y ≠ "__name__" → mb y = bootBuiltins y) (g4 : s1.heap.NoLimit) (g5 : s1.gens = #[]) (ha : s1.heap.get? a = some (scr vs)) (hi : IntsAre vs ns) (hl : ns.length ≤ sizeLine) (hr : VI.Room k callerA)
    (F : ∀ base : Heap, K.In base → base.Ns mainGlobals mg → VI.FnOk P w K mg base CX k fa fd [x] sp) (hbind : ∀ (s : Shared) (u : Value), BindsTo s fd ⟨[u], []⟩ [(x, u)]) (hsp : ∀ H : Hp, Only H → SqL K H a (ns.map V.int) → sp [.ref a] H (fun v _ => v = .bl true) fun _ _ _ => False)
    (hCX : ∀ H e s', CX [] H s1 (fun _ _ _ => False) e s' → False) : PySem.codeAny (model P w) callerA (.call (.ref fa) ⟨[.ref a], []⟩) (EndQ s1) s1 := by
  have rv := L2.vals_ints hi
  have lv : vs.length = ns.length := hi.length
  have lz : (ns.map V.int).length ≤ sizeLine := by rw [List.length_map]; exact hl
  by_cases hk : K.lookup a = none
  · have at_ : ∀ c, (if c = a then some (HO.frz (scr vs) (.lst (ns.map V.int))) else none : Option HO) ≠ none → c = a := fun c z => by
      by_cases e : c = a
      · exact e
      · rw [if_neg e] at z; exact absurd rfl z
    have O : Only (fun c => if c = a then some (HO.frz (scr vs) (.lst (ns.map V.int))) else none) := fun c => by
      by_cases e : c = a
      · exact .inr ⟨_, _, if_pos e⟩
      · exact .inl (if_neg e)
    refine end_at (H := fun c => if c = a then some (HO.frz (scr vs) (.lst (ns.map V.int))) else none) KX g1 g2 g3 g4 g5 ha hr F hbind hCX O (hsp _ O (.inl (.inr ⟨scr vs, if_pos rfl⟩))) (fun c u z => ?_) at_ fun _ => hk
    have e := at_ c (by rw [show (if c = a then some (HO.frz (scr vs) (.lst (ns.map V.int))) else none : Option HO) = some u from z]; exact Option.some_ne_none _)
    subst e
    have z2 := (if_pos rfl).symm.trans (show (if c = c then some (HO.frz (scr vs) (.lst (ns.map V.int))) else none : Option HO) = some u from z)
    cases z2
    exact ⟨ha, lz, vs, _, rv, ha⟩
  · obtain ⟨o, ho⟩ := Option.ne_none_iff_exists'.mp hk
    have e := KX a o ho
    rw [ha] at e
    cases e
    have sq : SqL K (fun _ => none) a (ns.map V.int) := .inr ⟨_, vs.toArray, _, ho, rfl, rfl, rfl, by rw [List.size_toArray, lv]; exact hl, by simpa using rv⟩
    exact end_at (H := fun _ => none) KX g1 g2 g3 g4 g5 ha hr F hbind hCX (fun _ => .inl rfl) (hsp _ (fun _ => .inl rfl) sq) (fun c u z => by have z2 : (none : Option HO) = some u := z; cases z2) (fun c z => absurd rfl z) fun z => absurd rfl z
end
/-- a law's walk, from its def's promise -/
theorem walk_ofG {l : PySem.W.OpenLaw} {n k : Nat} {q : Program} {loose : List Str} {XP : (Str → Option Value) → Heap → Prop} {YP : World → Heap → Prop} {d : DefRec} {CX : CXT} {x : Str} (hn : l.most = some n) (hz : n ≤ sizeLine) (hd0 : d.params.defaults = []) (hr : VI.Room k callerA)
    (F : ∀ (w : World) (mg : Str → Option Value) (fa : Addr) (h : Heap), YP w h → h.Ns mainGlobals mg → mg d.name = some (.ref fa) → ∃ (K : PySem.W.Frag) (fd : FuncData) (sp : Sp), K.In h ∧ (∀ (s : Shared) (u : Value), BindsTo s fd ⟨[u], []⟩ [(x, u)]) ∧
        (∀ (H : Hp) (a : Addr) (ns : List Int), ns.length ≤ n → Only H → SqL K H a (ns.map V.int) → sp [.ref a] H (fun v _ => v = .bl true) fun _ _ _ => False) ∧ ∀ base : Heap, K.In base → base.Ns mainGlobals mg → VI.FnOk l.prog w K mg base CX k fa fd [x] sp)
    (hCX : ∀ (H : Hp) (s : Shared) (e : Value) (s' : Shared), CX [] H s (fun _ _ _ => False) e s' → False) : PySem.W.WalkO q loose XP YP l.row.toRowW d [] (fun f vs => PySem.call f vs) := by
  refine Att.attach_call hn hd0 fun w s0 s1 mg mb fa o pm cd doc a us ms G Y h1 h2 h3 h4 h5 h6 h7 h8 => ?_
  obtain ⟨K, fd, sp, KX, bt, hs, fo⟩ := F w mg fa _ Y G.T.g h4
  exact end_call KX G.T.g G.T.b G.T.builtins G.T.nolimit h8 h5 h6 (Nat.le_trans h7 hz) hr fo bt (fun H O S => hs H a ms h7 O S) fun H e s' => hCX H s1 e s'
end VI
end
section
set_option Elab.async false
set_option linter.all false
set_option maxRecDepth 100000
set_option maxHeartbeats 2000000
/-! V37: list(), tuple(), all(), any(), repr(), str(). -/
namespace VI
open PySem PySem.Spec L2

/-! ### list(x), tuple(x) -/
def fList : List D → Option Va
  | [p] => (seqOf p).map fun xs => .fr (.lst xs)
  | _ => none
def rListX (K : PySem.W.Frag) : List V → Hp → VK → Prop := fun xs H Q => ∃ p ys, xs = [.ref p] ∧ (SqL K H p ys ∨ SqT K H p ys) ∧ ∀ l, H l = none → Q (.ref l) (upd H l (.lst ys))
def fTuple : List D → Option Va
  | [.lst xs] => some (.im (.tup xs))
  | [.lz xs] => some (.im (.tup xs))
  | [.tup xs] => some (.im (.tup xs))
  | [.tz xs] => some (.im (.tz xs))
  | _ => none
def rTupleX (K : PySem.W.Frag) : List V → Hp → VK → Prop := fun xs H Q => ∃ p ys, xs = [.ref p] ∧ ((SqL K H p ys ∧ ∀ l, H l = none → Q (.ref l) (upd H l (.tup ys))) ∨ (SqT K H p ys ∧ Q (.ref p) H))
section
variable {K : PySem.W.Frag}
theorem Rdr.tzD {al : List Addr} {F H : Hp} {ds : List D} {w : V} (h : Rdr K al F H (.tz ds) w) : Dat K al F (.tz ds) w := by
  rcases h with ⟨d, _⟩ | ⟨a, ho, o, e, h1, h2, h3⟩
  · exact d
  · cases o <;> cases h3
theorem bls_list : BlS K (rListX K) fList := fun E F al H σ s ws ps va rel rr e Q hQ => by
  unfold fList at e
  split at e
  · rename_i p
    cases hs : seqOf p with
    | none => rw [hs] at e; cases e
    | some xs =>
      rw [hs] at e
      cases e
      obtain ⟨w, rfl, r⟩ := rr.one
      obtain ⟨a, vs, rfl, h1, l, z⟩ := seqOf_ok rel.sub r hs
      exact ⟨a, vs, rfl, h1.symm, fun q hq => fin_l rel l z hQ q hq⟩
  · cases e
theorem bls_tuple : BlS K (rTupleX K) fTuple := fun E F al H σ s ws ps va rel rr e Q hQ => by
  unfold fTuple at e
  split at e
  · cases e
    obtain ⟨w, rfl, r⟩ := rr.one
    obtain ⟨a, vs, rfl, h1, l, z⟩ := r.lst rel.sub
    exact ⟨a, vs, rfl, .inl ⟨.of h1, fun q hq => fin_t rel l z hQ q hq⟩⟩
  · cases e
    obtain ⟨w, rfl, r⟩ := rr.one
    obtain ⟨a, vs, rfl, h1, l, z⟩ := r.lz rel.sub
    exact ⟨a, vs, rfl, .inl ⟨h1, fun q hq => fin_t rel l z hQ q hq⟩⟩
  · cases e
    obtain ⟨w, rfl, r⟩ := rr.one
    have d := r.tupD
    obtain ⟨a, vs, rfl, h1, l, z⟩ := r.tup rel.sub
    exact ⟨a, vs, rfl, .inr ⟨.of h1, fin_d rel d hQ⟩⟩
  · cases e
    obtain ⟨w, rfl, r⟩ := rr.one
    have d := r.tzD
    obtain ⟨a, vs, rfl, h1, l, z⟩ := r.tz rel.sub
    exact ⟨a, vs, rfl, .inr ⟨h1, fin_d rel d hQ⟩⟩
  · cases e
/-! ### all(x), any(x) of a list of bools -/
def blsOf : List D → Option (List Bool)
  | [] => some []
  | d :: ds => match d with
    | .bl b => (blsOf ds).map fun bs => b :: bs
    | _ => none
theorem bls_vs {al : List Addr} {F : Hp} : ∀ {ds : List D} {bs : List Bool} {vs : List V}, blsOf ds = some bs → DatL K al F ds vs → vs = bs.map .bl
  | [], _, _, h, .nil => by cases h; rfl
  | d :: ds, bs, _, h, .cons h1 t => by
    unfold blsOf at h
    split at h
    · cases hq : blsOf ds with
      | none => rw [hq] at h; cases h
      | some zs =>
        rw [hq] at h
        cases h
        cases h1
        rw [bls_vs hq t]
        rfl
    · cases h
def lstOf : D → Option (List D)
  | .lst xs => some xs
  | .lz xs => some xs
  | _ => none
theorem lstOf_ok {al : List Addr} {F H : Hp} {p : D} {w : V} {xs : List D} (hs : Sub F H) (r : Rdr K al F H p w) (h : lstOf p = some xs) : ∃ a vs, w = .ref a ∧ SqL K H a vs ∧ DatL K al F xs vs ∧ xs.length ≤ sizeLine := by
  unfold lstOf at h
  split at h
  · cases h; obtain ⟨a, vs, e, h1, l, z⟩ := r.lst hs; exact ⟨a, vs, e, .of h1, l, z⟩
  · cases h; obtain ⟨a, vs, e, h1, l, z⟩ := r.lz hs; exact ⟨a, vs, e, h1, l, z⟩
  · cases h
def fBls (g : List Bool → Bool) : List D → Option Va
  | [p] => ((lstOf p).bind blsOf).map fun bs => .im (.bl (g bs))
  | _ => none
theorem fBls_ok {g : List Bool → Bool} {al : List Addr} {F H : Hp} {ps : List D} {ws : List V} {va : Va} (hs : Sub F H) (rr : RdL K al F H ps ws) (e : fBls g ps = some va) : ∃ a bs, ws = [.ref a] ∧ SqL K H a (bs.map V.bl) ∧ va = .im (.bl (g bs)) := by
  unfold fBls at e
  split at e
  · rename_i p
    cases hl : lstOf p with
    | none => rw [hl] at e; cases e
    | some xs =>
      rw [hl] at e
      simp only [Option.bind_some] at e
      cases hb : blsOf xs with
      | none => rw [hb] at e; cases e
      | some bs =>
        rw [hb] at e
        cases e
        obtain ⟨w, rfl, r⟩ := rr.one
        obtain ⟨a, vs, rfl, h1, l, _⟩ := lstOf_ok hs r hl
        rw [bls_vs hb l] at h1
        exact ⟨a, bs, rfl, h1, rfl⟩
  · cases e
abbrev gAll (bs : List Bool) : Bool := bs.all id
abbrev gAny (bs : List Bool) : Bool := bs.any id
theorem bls_all : BlS K (rAll K) (fBls gAll) := fun E F al H σ s ws ps va rel rr e Q hQ => by
  obtain ⟨a, bs, rfl, h, rfl⟩ := fBls_ok rel.sub rr e
  exact ⟨a, bs, rfl, h, fin_d rel (.bl _) hQ⟩
theorem bls_any : BlS K (rAny K) (fBls gAny) := fun E F al H σ s ws ps va rel rr e Q hQ => by
  obtain ⟨a, bs, rfl, h, rfl⟩ := fBls_ok rel.sub rr e
  exact ⟨a, bs, rfl, h, fin_d rel (.bl _) hQ⟩
/-! ### repr(x) -/
mutual
inductive RdV (K : PySem.W.Frag) (H : Hp) : V → PyData → Prop
  | non : RdV K H .non .none
  | bl (b : Bool) : RdV K H (.bl b) (.bool b)
  | int (i : Int) : RdV K H (.int i) (.int i)
  | str (x : Str) : RdV K H (.str x) (.str x)
  | lst {a : Addr} {vs : List V} {ds : List PyData} : SqL K H a vs → RdVL K H vs ds → RdV K H (.ref a) (.list ds)
  | tup {a : Addr} {vs : List V} {ds : List PyData} : SqT K H a vs → RdVL K H vs ds → RdV K H (.ref a) (.tuple ds)
inductive RdVL (K : PySem.W.Frag) (H : Hp) : List V → List PyData → Prop
  | nil : RdVL K H [] []
  | cons {v : V} {d : PyData} {vs : List V} {ds : List PyData} : RdV K H v d → RdVL K H vs ds → RdVL K H (v :: vs) (d :: ds)
end
mutual
def pyD : D → Option PyData
  | .non => some .none
  | .bl b => some (.bool b)
  | .int i => some (.int i)
  | .str x => some (.str x)
  | .lst xs => (pyDs xs).map .list
  | .lz xs => (pyDs xs).map .list
  | .tup xs => (pyDs xs).map .tuple
  | .tz xs => (pyDs xs).map .tuple
  | _ => none
def pyDs : List D → Option (List PyData)
  | [] => some []
  | d :: ds => match pyD d, pyDs ds with
    | some x, some xs => some (x :: xs)
    | _, _ => none
end
mutual
theorem pyD_dat {al : List Addr} {F H : Hp} (hs : Sub F H) : ∀ {d : D} {v : V} {p : PyData}, Dat K al F d v → pyD d = some p → RdV K H v p
  | _, _, _, .non, h => by unfold pyD at h; cases h; exact .non
  | _, _, _, .bl b, h => by unfold pyD at h; cases h; exact .bl b
  | _, _, _, .int b, h => by unfold pyD at h; cases h; exact .int b
  | _, _, _, .str b, h => by unfold pyD at h; cases h; exact .str b
  | _, _, _, .ty b, h => by unfold pyD at h; cases h
  | .lst xs, _, _, .lst h1 l _, h => by
    unfold pyD at h
    cases hq : pyDs xs with
    | none => rw [hq] at h; cases h
    | some ps => rw [hq] at h; cases h; exact .lst (.of (hs.here h1 (fun z => z))) (pyDs_dat hs l hq)
  | .lz xs, _, _, .lz h1 l _, h => by
    unfold pyD at h
    cases hq : pyDs xs with
    | none => rw [hq] at h; cases h
    | some ps => rw [hq] at h; cases h; exact .lst (hs.seqL h1) (pyDs_dat hs l hq)
  | .tup xs, _, _, .tup h1 l _, h => by
    unfold pyD at h
    cases hq : pyDs xs with
    | none => rw [hq] at h; cases h
    | some ps => rw [hq] at h; cases h; exact .tup (.of (hs.here h1 (fun z => z))) (pyDs_dat hs l hq)
  | .tz xs, _, _, .tz h1 l _, h => by
    unfold pyD at h
    cases hq : pyDs xs with
    | none => rw [hq] at h; cases h
    | some ps => rw [hq] at h; cases h; exact .tup (hs.seqT h1) (pyDs_dat hs l hq)
  | _, _, _, .dk _ _, h => by unfold pyD at h; cases h
  | _, _, _, .dt _ _, h => by unfold pyD at h; cases h
  | _, _, _, .ins _ _, h => by unfold pyD at h; cases h
  | _, _, _, .ref _, h => by unfold pyD at h; cases h
  | _, _, _, .fn _, h => by unfold pyD at h; cases h
theorem pyDs_dat {al : List Addr} {F H : Hp} (hs : Sub F H) : ∀ {ds : List D} {vs : List V} {ps : List PyData}, DatL K al F ds vs → pyDs ds = some ps → RdVL K H vs ps
  | _, _, _, .nil, h => by unfold pyDs at h; cases h; exact .nil
  | d :: ds, _, _, .cons h1 t, h => by
    unfold pyDs at h
    split at h
    · rename_i x xs e1 e2
      cases h
      exact .cons (pyD_dat hs h1 e1) (pyDs_dat hs t e2)
    · cases h
end
theorem pyD_rdr {al : List Addr} {F H : Hp} (hs : Sub F H) {d : D} {v : V} {p : PyData} (r : Rdr K al F H d v) (h : pyD d = some p) : RdV K H v p := by
  rcases r with ⟨d, _⟩ | ⟨a, ho, o, rfl, h1, h2, rfl⟩
  · exact pyD_dat hs d h
  · cases o with
    | lst xs =>
      cases ho <;> first | exact h2.elim | skip
      obtain ⟨l, _⟩ := (show _ ∧ _ from h2)
      have h : pyD (.lst xs) = some p := h
      unfold pyD at h
      cases hq : pyDs xs with
      | none => rw [hq] at h; cases h
      | some ps => rw [hq] at h; cases h; exact .lst (.of h1) (pyDs_dat hs l hq)
    | dk xs => have h : pyD (.dk xs) = some p := h; unfold pyD at h; cases h
    | dt xs => have h : pyD (.dt xs) = some p := h; unfold pyD at h; cases h
    | ins c xs => have h : pyD (.ins c xs) = some p := h; unfold pyD at h; cases h
end
section
variable {X : Cx} {pins : List (Addr × Obj)} {σ : L2.St} {H : Hp} {s : Shared}
mutual
theorem reads_of (I : Inv X pins σ H s) : ∀ {v : V} {d : PyData} {u : Value}, RdV X.K H v d → RelV v u → ∃ as, Reads s.heap u d as
  | _, _, _, .non, r => by cases r; exact ⟨_, .none⟩
  | _, _, _, .bl b, r => by cases r; exact ⟨_, .bool b⟩
  | _, _, _, .int b, ⟨t, r⟩ => by subst r; exact ⟨_, .int b t⟩
  | _, _, _, .str b, ⟨t, r⟩ => by subst r; exact ⟨_, .str b t⟩
  | _, _, _, .lst h1 l, r => by
    cases r
    obtain ⟨its, rv, ⟨o, n, e, e1, _, e3⟩, _⟩ := I.list h1
    obtain ⟨as, z⟩ := readsL_of I l rv
    exact ⟨_, .list e e1 e3 z⟩
  | _, _, _, .tup h1 l, r => by
    cases r
    obtain ⟨its, rv, ⟨o, e, e1, n, e3⟩, _⟩ := I.tuple h1
    obtain ⟨as, z⟩ := readsL_of I l rv
    exact ⟨_, .tuple e e1 e3 z⟩
theorem readsL_of (I : Inv X pins σ H s) : ∀ {vs : List V} {ds : List PyData} {us : List Value}, RdVL X.K H vs ds → Vals vs us → ∃ as, ReadsAll s.heap us ds as
  | _, _, _, .nil, r => by cases r; exact ⟨_, .nil⟩
  | _, _, _, .cons h t, r => by
    cases r with
    | cons r1 r2 =>
      obtain ⟨as, z⟩ := reads_of I h r1
      obtain ⟨bs, z2⟩ := readsL_of I t r2
      exact ⟨_, .cons z z2⟩
end
end
def reprOk (d : PyData) : Bool := d.showable && (!d.hasDict && (decide (d.depth ≤ 60) && decide (d.shown.length ≤ sizeLine)))
theorem reprOk_ok {d : PyData} (h : reprOk d = true) : d.showable = true ∧ d.hasDict = false ∧ d.depth ≤ 60 ∧ d.shown.length ≤ sizeLine := by
  unfold reprOk at h
  simp only [Bool.and_eq_true, Bool.not_eq_true', decide_eq_true_eq] at h
  exact h
def fRepr : List D → Option Va
  | [p] => match pyD p with
    | some d => if reprOk d = true then some (.im (.str d.shown)) else none
    | none => none
  | _ => none
def rReprX (K : PySem.W.Frag) : List V → Hp → VK → Prop := fun xs H Q => ∃ v d, xs = [v] ∧ RdV K H v d ∧ reprOk d = true ∧ Q (.str d.shown) H
theorem bls_repr {K : PySem.W.Frag} : BlS K (rReprX K) fRepr := fun E F al H σ s ws ps va rel rr e Q hQ => by
  unfold fRepr at e
  split at e
  · rename_i p
    split at e
    · rename_i d hd
      split at e
      · rename_i ok
        cases e
        obtain ⟨w, rfl, r⟩ := rr.one
        exact ⟨w, d, rfl, pyD_rdr rel.sub r hd, ok, fin_d rel (.str _) hQ⟩
      · cases e
    · cases e
  · cases e
section
variable {X : Cx} {k : Nat}
theorem call_reprX (hr : VI.Room k X.A) : CallR X (.builtin "repr") (rReprX X.K) := by
  intro pins s σ H vs us Q I r h
  obtain ⟨v, d, rfl, hv, ok, q⟩ := h
  obtain ⟨k1, k2, k3, k4⟩ := reprOk_ok ok
  obtain ⟨u, rfl, ru⟩ := vals1 r
  obtain ⟨as, hd⟩ := reads_of I hv ru
  have hun := hr.un
  cases hd with
  | none => exact PySem.P.repr_of_none ⟨.str _, H, I.tok _, ⟨_, rfl⟩, q⟩
  | bool b => exact PySem.P.repr_of_bool ⟨.str _, H, I.tok _, ⟨_, rfl⟩, q⟩
  | int i t => exact PySem.P.repr_of_int (by simpa [PyData.showable] using k1) ⟨.str _, H, I.tok _, ⟨_, rfl⟩, q⟩
  | str z t => exact PySem.P.repr_of_str ⟨.str _, H, I.tok _, ⟨_, rfl⟩, q⟩ (by simpa [PyData.shown] using k4)
  | list h1 h2 h3 h4 => exact repr_of_reads' (.list h1 h2 h3 h4) k1 (PyData.noDict_hsm k2) hr.gd (by omega) (fun _ _ e => e) (fun h' u tk hk => ⟨.str _, H, I.kept (t' := tk) hk, ⟨_, rfl⟩, q⟩) k4
  | tuple h1 h2 h3 h4 => exact repr_of_reads' (.tuple h1 h2 h3 h4) k1 (PyData.noDict_hsm k2) hr.gd (by omega) (fun _ _ e => e) (fun h' u tk hk => ⟨.str _, H, I.kept (t' := tk) hk, ⟨_, rfl⟩, q⟩) k4
  | dict h1 h2 h3 h4 h5 => simp [PyData.hasDict] at k2
end
section
variable {X : Cx} {W : Wx} {K : PySem.W.Frag} {x : Str} {p pos : Pos} {a : Expr} {th : TA} {m : M (List Va)} {k : Nat}
theorem se_list (hm : X.mg "list" = none) (ha : SV X K W [a] th m) (hx : x = ("list" : Str) := by rfl) (hg : Gl X "list" := by rfl) (he : starEach [a] X.env = [(false, eval a X.env)] := by rfl) : SE X K W (.Call (.Name x p) [a] [] pos) (tCB (rListX K) th) (evBl fList m) := by
  subst hx
  obtain ⟨rfl, _⟩ := id ha
  exact se_ty call_list_of bls_list PyProof.Rows.boot_list hm ha hg (by decide) (by decide) he rfl
theorem se_tuple (hm : X.mg "tuple" = none) (ha : SV X K W [a] th m) (hx : x = ("tuple" : Str) := by rfl) (hg : Gl X "tuple" := by rfl) (he : starEach [a] X.env = [(false, eval a X.env)] := by rfl) : SE X K W (.Call (.Name x p) [a] [] pos) (tCB (rTupleX K) th) (evBl fTuple m) := by
  subst hx
  obtain ⟨rfl, _⟩ := id ha
  exact se_ty call_tuple_of bls_tuple PyProof.Rows.boot_tuple hm ha hg (by decide) (by decide) he rfl
theorem se_all (hm : X.mg "all" = none) (ha : SV X K W [a] th m) (hc : X.calm = true := by rfl) (hx : x = ("all" : Str) := by rfl) (hg : Gl X "all" := by rfl) (he : starEach [a] X.env = [(false, eval a X.env)] := by rfl) : SE X K W (.Call (.Name x p) [a] [] pos) (tCB (rAll K) th) (evBl (fBls gAll) m) := by
  subst hx
  obtain ⟨rfl, _⟩ := id ha
  exact se_blt (cr_all hc) bls_all PyProof.Rows.boot_all hm ha hg (by decide) (by decide) he rfl
theorem se_any (hm : X.mg "any" = none) (ha : SV X K W [a] th m) (hc : X.calm = true := by rfl) (hx : x = ("any" : Str) := by rfl) (hg : Gl X "any" := by rfl) (he : starEach [a] X.env = [(false, eval a X.env)] := by rfl) : SE X K W (.Call (.Name x p) [a] [] pos) (tCB (rAny K) th) (evBl (fBls gAny) m) := by
  subst hx
  obtain ⟨rfl, _⟩ := id ha
  exact se_blt (cr_any hc) bls_any PyProof.Rows.boot_any hm ha hg (by decide) (by decide) he rfl
theorem se_repr (hr : VI.Room k X.A) (hm : X.mg "repr" = none) (ha : SV X K W [a] th m) (hx : x = ("repr" : Str) := by rfl) (hg : Gl X "repr" := by rfl) (he : starEach [a] X.env = [(false, eval a X.env)] := by rfl) : SE X K W (.Call (.Name x p) [a] [] pos) (tCB (rReprX K) th) (evBl fRepr m) := by
  subst hx
  obtain ⟨rfl, _⟩ := id ha
  exact se_blt (call_reprX hr) bls_repr PyProof.Rows.boot_repr hm ha hg (by decide) (by decide) he rfl
end
end VI
end
section
set_option Elab.async false
set_option linter.all false
set_option maxRecDepth 100000
set_option maxHeartbeats 2000000
/-! V38: str(), f-strings, reading methods, tables of tuples. -/
namespace VI
open PySem PySem.Spec PyProof.Rows L2

/-! ### str(x): a text, an int, an own instance by its own __str__ -/
def tStrO (K : PySem.W.Frag) (Ok : Addr → Prop) (So : Addr → SpK) (E : L2.St → XK) (ta : TE) : TE := fun σ H Q => ta σ H fun x H1 => (∃ z, x = .str z ∧ Q (.str z) H1) ∨ (∃ i, x = .int i ∧ i.natAbs.log2 < 1920 ∧ Q (.str (toString i)) H1) ∨
  ∃ a C dx us, x = .ref a ∧ H1 a = some (.ins C dx us) ∧ Ok C ∧ So C [x] [] H1 (fun v H' => (∃ z, v = .str z) ∧ Q v H') (E σ)
def evStrO (tbl : MTab) (m : M Va) : M Va := (m >>= esc) >>= fun p => fun s => match clsAt p s with
  | some (c, _) => (match tbl.lookup c with
    | some g => (match g [p] [] s.st with
      | .ok (.im (.str z)) st => .ok (.im (.str z)) { s with st := st }
      | .ex x st => .ex x { s with st := st }
      | _ => .no)
    | none => .no)
  | none => (match p with
    | .str z => .ok (.im (.str z)) s
    | .int i => if i.natAbs.log2 < 1920 then .ok (.im (.str (toString i))) s else .no
    | _ => .no)
section
variable {X : Cx} {k : Nat} {Ok : Addr → Prop} {So : Addr → SpK} {E : L2.St → XK} {a : Expr} {ta : TE} {x : Str} {p pos : Pos}
theorem pe_strO (hC : ∀ C, Ok C → ∃ g, PySem.W.findIn X.K (.ref C) "__str__" = some (some (.ref g)) ∧ PySem.W.isFn X.K (.ref g) = true ∧ CbG X.prog X.w X.K X.mg X.base k g [] (So C)) (hr : Room (k + 2) X.A) (hx : ∀ σ, PassesAt (CV X.prog X.w) X σ (E σ)) (ha : PE X a ta) (hm : X.mg "str" = none) (hg : Gl X "str") (he : starEach [a] X.env = [(false, eval a X.env)]) :
    PE X (.Call (.Name "str" p) [a] [] pos) (tStrO X.K Ok So E ta) := by
  refine ⟨fun pins s σ H Q I h => ?_⟩
  refine wpAny_Call_Name_kw (ld_blt I hg hm PyProof.Rows.boot_str ?_ (by decide) (by decide))
  refine PyProof.Rows.callWith_type1 (?_) he rfl
  rw [show backTo pos (starEach [a] X.env) = backTo pos [(false, eval a X.env)] by rw [he]]
  refine Calls.spliced_cons (thn (ha.run pins s σ H _ I h) fun u s1 ⟨v, H1, I1, rv, q⟩ => Calls.spliced_nil ?_)
  rcases q with ⟨z, rfl, q⟩ | ⟨i, rfl, hi, q⟩ | ⟨y, C, dx, us, rfl, h1, ok, q⟩
  · obtain ⟨t, rfl⟩ := rv
    exact PySem.P.str_of_str ⟨.str z, H1, I1, ⟨t, rfl⟩, q⟩
  · obtain ⟨t, rfl⟩ := rv
    exact PySem.P.str_of_int hi ⟨.str (toString i), H1, I1.tok _, ⟨_, rfl⟩, q⟩
  · obtain rfl : u = Value.ref y := rv
    obtain ⟨g, f1, f2, F⟩ := hC C ok
    obtain ⟨mA, O, _⟩ := ins_get I1.hok h1
    obtain ⟨od, J, _⟩ := O.look
    refine PySem.W.kso_call (by have := hr.un; show X.A.units + 1 + 1 < _; omega) I1.kIn J f1 f2 ?_
    have e0 : Env0 X.prog X.w X.K X.mg X.base X.A.in1.in1 X.stack s1 H1 := by
      have e := I1.env0
      exact ⟨e.frames, e.mod, e.bs, e.bsz, e.funs, e.frf, e.hok, e.bare⟩
    refine PySem.wpAny_call (PySem.codeAny_mono (F X.A.in1.in1 X.stack s1 H1 [.ref y] [] [.ref y] [] _ (E σ) hr.in1.in1 e0 (.cons rfl .nil) .nil rfl q) fun out s' z => ?_)
    match out, z with
    | .error e, z => exact hx σ pins H1 s1 e s' I1 z
    | .ok (.ret w), z =>
      obtain ⟨d, H', I', rd, ⟨c, ec⟩, q⟩ := I1.after z
      subst ec
      obtain ⟨t, rfl⟩ := rd
      exact ⟨.str c, H', I', ⟨t, rfl⟩, q⟩
    | .ok .next, z => exact z.elim
    | .ok .brk, z => exact z.elim
    | .ok .cont, z => exact z.elim
end
section
variable {K : PySem.W.Frag} {W : Wx} {tbl : MTab}
theorem good_strO {ta : TE} {ea : M Va} (ga : GoodE K W ta ea) : GoodE K W (tStrO K (OkT K tbl) (SoT K tbl) (WE W) ta) (evStrO tbl ea) := fun E F al H σ s rel => by
  refine Sat.bind (u := fun x H1 Q => (∃ z, x = .str z ∧ Q (.str z) H1) ∨ (∃ i, x = .int i ∧ i.natAbs.log2 < 1920 ∧ Q (.str (toString i)) H1) ∨ ∃ a C dx us, x = .ref a ∧ H1 a = some (.ins C dx us) ∧ OkT K tbl C ∧ SoT K tbl C [x] [] H1 (fun v H' => (∃ z, v = .str z) ∧ Q v H') (WE W σ)) VR.low (ga E F al H σ s rel).esc fun p s1 w1 F1 al1 H1 _ rel1 st1 v1 => ?_
  have v1 : Dat K al1 F1 p w1 := v1
  cases hc : clsAt p s1 with
  | none =>
    simp only [hc]
    cases p with
    | str z =>
      cases v1
      exact fun Q hQ => .inl ⟨z, rfl, hQ _ F1 al1 H1 rel1 .refl (.str z)⟩
    | int i =>
      cases v1
      dsimp only
      by_cases hi : i.natAbs.log2 < 1920
      · rw [if_pos hi]
        exact fun Q hQ => .inr (.inl ⟨i, rfl, hi, hQ _ F1 al1 H1 rel1 .refl (.str _)⟩)
      · rw [if_neg hi]; exact True.intro
    | _ => exact True.intro
  | some r0 =>
    obtain ⟨c, fs⟩ := r0
    obtain ⟨a, dx, vs, rfl, h1, _⟩ := clsAt_ok rel1 v1 hc
    simp only [hc]
    cases hl : tbl.lookup c with
    | none => exact True.intro
    | some g =>
      dsimp only
      have put : ∀ Q : VK, FrW K F1 al1 H1 (fun v H' => (∃ z, v = .str z) ∧ Q v H') (WE W σ) (g [p] [] s1.st) → ∃ b C dx us, V.ref a = .ref b ∧ H1 b = some (.ins C dx us) ∧ OkT K tbl C ∧ SoT K tbl C [.ref a] [] H1 (fun v H' => (∃ z, v = .str z) ∧ Q v H') (WE W σ) := fun Q z =>
        ⟨a, _, dx, vs, rfl, h1, ⟨c, g, rfl, hl⟩, c, g, rfl, hl, F1, al1, s1.st, [p], [], rel1.g, .cons v1 .nil, .nil, z⟩
      cases hg : g [p] [] s1.st with
      | no => exact True.intro
      | ex x st =>
        refine fun Q hQ => .inr (.inr (put Q ?_))
        rw [hg]
        intro cls dd F' al' H' gR ext z
        obtain ⟨r3, s3⟩ := rel1.call gR ext
        exact hQ cls dd F' al' H' r3 s3 z
      | ok v st =>
        cases v with
        | im d =>
          cases d with
          | str z =>
            refine fun Q hQ => .inr (.inr (put Q ?_))
            rw [hg]
            intro w F' al' H' gR ext q
            obtain ⟨r3, s3⟩ := rel1.call gR ext
            cases (show Dat K al' F' (.str z) w from q)
            exact ⟨⟨z, rfl⟩, hQ _ F' al' H' r3 s3 (.str z)⟩
          | _ => exact True.intro
        | _ => exact True.intro
end
section
variable {X : Cx} {W : Wx} {k : Nat} {tbl : MTab} {a : Expr} {x : Str} {p pos : Pos} {K : PySem.W.Frag} {ta : TE} {ea : M Va}
theorem se_strO (h : ∀ c g, tbl.lookup c = some g → CmpP X.prog X.w X.K X.mg X.base k c "__str__" g) (hr : Room (k + 2) X.A) (hx : ∀ σ, PassesAt (CV X.prog X.w) X σ (WE W σ)) (hm : X.mg "str" = none) (ha : SE X K W a ta ea) (hn : x = ("str" : Str) := by rfl) (hg : Gl X "str" := by rfl) (he : starEach [a] X.env = [(false, eval a X.env)] := by rfl) :
    SE X K W (.Call (.Name x p) [a] [] pos) (tStrO K (OkT K tbl) (SoT K tbl) (WE W) ta) (evStrO tbl ea) := by
  subst hn
  obtain ⟨rfl, pa, ga⟩ := ha
  exact ⟨rfl, pe_strO (cmpO_of (nm := "__str__") h) hr hx pa hm hg he, good_strO ga⟩
end

/-! ### f-strings -/
def evFmt (m : M Va) : M Str := m >>= fun v s => match rd v s with
  | some (.str y) => if y.length ≤ sizeLine then .ok y s else .no
  | some (.int i) => if i.natAbs.log2 < 1920 then .ok (toString i) s else .no
  | _ => .no
def evConst (m : M Va) : M Str := m >>= fun v s => match rd v s with
  | some (.str y) => .ok y s
  | _ => .no
def evJs : List (M Str) → Str → M Str
  | [], acc => pure acc
  | m :: ms, acc => m >>= fun y s => if (acc ++ y).length ≤ sizeLine then evJs ms (acc ++ y) s else .no
def evJoined (ms : List (M Str)) : M Va := evJs ms Str.empty >>= fun z => pure (.im (.str z))
abbrev SR : Hp → List Addr → Hp → Hp → S → Str → Str → Prop := fun _ _ _ _ _ w b => w = b
theorem SR.low : Low SR := fun _ _ _ _ _ _ _ _ _ r => r
/-- a part gives a text -/
def GoodP (K : PySem.W.Frag) (W : Wx) (te : TE) (m : M Str) : Prop := ∀ (E : Ent) (F : Hp) (al : List Addr) (H : Hp) (σ : L2.St) (s : S), Rel K E F al H σ s → Sat K E W SR F al H σ s (fun Q => te σ H fun x H1 => ∃ y : Str, x = .str y ∧ Q y H1) (m s)
inductive SJ (X : Cx) (K : PySem.W.Frag) (W : Wx) : List Expr → List TE → List (M Str) → Prop
  | nil : SJ X K W [] [] []
  | cons {e : Expr} {t : TE} {m : M Str} {es : List Expr} {ts : List TE} {ms : List (M Str)} (p : PE X e t) (g : GoodP K W t m) (r : SJ X K W es ts ms) : SJ X K W (e :: es) (t :: ts) (m :: ms)
section
variable {X : Cx} {W : Wx} {K : PySem.W.Frag}
theorem SJ.pj {es : List Expr} {ts : List TE} {ms : List (M Str)} (h : SJ X K W es ts ms) : PJ X es ts := by
  induction h with
  | nil => exact .nil
  | cons p g r ih => exact .cons p ih
theorem good_fmt {te : TE} {m : M Va} (g : GoodE K W te m) : GoodP K W (tFmt te) (evFmt m) := fun E F al H σ s rel => by
  refine Sat.bind (u := fun x H1 (Q : Str → Hp → Prop) => (∃ y : Str, x = .str y ∧ y.length ≤ sizeLine ∧ ∃ y' : Str, V.str y = .str y' ∧ Q y' H1) ∨ ∃ i : Int, x = .int i ∧ i.natAbs.log2 < 1920 ∧ ∃ y' : Str, V.str (toString i) = .str y' ∧ Q y' H1) SR.low (g E F al H σ s rel) (f := fun v s => match rd v s with
    | some (.str y) => if y.length ≤ sizeLine then .ok y s else .no
    | some (.int i) => if i.natAbs.log2 < 1920 then .ok (toString i) s else .no
    | _ => .no) fun va s1 w1 F1 al1 H1 _ rel1 st1 v1 => ?_
  cases hr : rd va s1 with
  | none => exact True.intro
  | some p =>
    cases p with
    | str y =>
      dsimp only
      cases (rd_ok rel1 v1 hr).str
      by_cases hz : y.length ≤ sizeLine
      · rw [if_pos hz]; exact fun Q hQ => .inl ⟨y, rfl, hz, y, rfl, hQ y F1 al1 H1 rel1 .refl rfl⟩
      · rw [if_neg hz]; exact True.intro
    | int i =>
      dsimp only
      cases (rd_ok rel1 v1 hr).int
      by_cases hz : i.natAbs.log2 < 1920
      · rw [if_pos hz]; exact fun Q hQ => .inr ⟨i, rfl, hz, _, rfl, hQ _ F1 al1 H1 rel1 .refl rfl⟩
      · rw [if_neg hz]; exact True.intro
    | _ => exact True.intro
theorem good_const {te : TE} {m : M Va} (g : GoodE K W te m) : GoodP K W te (evConst m) := fun E F al H σ s rel => by
  refine Sat.bind (u := fun x H1 (Q : Str → Hp → Prop) => ∃ y : Str, x = .str y ∧ Q y H1) SR.low (g E F al H σ s rel) (f := fun v s => match rd v s with
    | some (.str y) => .ok y s
    | _ => .no) fun va s1 w1 F1 al1 H1 _ rel1 st1 v1 => ?_
  cases hr : rd va s1 with
  | none => exact True.intro
  | some p =>
    cases p with
    | str y =>
      cases (rd_ok rel1 v1 hr).str
      exact fun Q hQ => ⟨y, rfl, hQ y F1 al1 H1 rel1 .refl rfl⟩
    | _ => exact True.intro
theorem good_js {es : List Expr} {ts : List TE} {ms : List (M Str)} (h : SJ X K W es ts ms) : ∀ (acc : Str) (E : Ent) (F : Hp) (al : List Addr) (H : Hp) (σ : L2.St) (s : S), Rel K E F al H σ s → Sat K E W SR F al H σ s (fun Q => tJs ts acc σ H Q) (evJs ms acc s) := by
  induction h with
  | nil => exact fun acc E F al H σ s rel => fun Q hQ => hQ acc F al H rel .refl rfl
  | @cons e t m es ts ms p g r ih =>
    intro acc E F al H σ s rel
    refine Sat.bind (u := fun y H1 (Q : Str → Hp → Prop) => (acc ++ y).length ≤ sizeLine ∧ tJs ts (acc ++ y) σ H1 Q) SR.low (g E F al H σ s rel) (f := fun y s => if (acc ++ y).length ≤ sizeLine then evJs ms (acc ++ y) s else .no) fun y s1 w1 F1 al1 H1 _ rel1 st1 v1 => ?_
    obtain rfl : w1 = y := v1
    show Sat K E W SR F1 al1 H1 σ s1 _ (if (acc ++ w1).length ≤ sizeLine then evJs ms (acc ++ w1) s1 else .no)
    by_cases hz : (acc ++ w1).length ≤ sizeLine
    · rw [if_pos hz]
      exact (ih (acc ++ w1) E F1 al1 H1 σ s1 rel1).imp fun Q q => ⟨hz, q⟩
    · rw [if_neg hz]; exact True.intro
theorem good_joined {es : List Expr} {ts : List TE} {ms : List (M Str)} (h : SJ X K W es ts ms) : GoodE K W (fun σ H Q => tJs ts Str.empty σ H fun out H1 => Q (.str out) H1) (evJoined ms) := fun E F al H σ s rel => by
  refine Sat.bind (u := fun out H1 (Q : VK) => Q (.str out) H1) VR.low (good_js h Str.empty E F al H σ s rel) fun y s1 w1 F1 al1 H1 _ rel1 st1 v1 => ?_
  obtain rfl : w1 = y := v1
  exact fun Q hQ => hQ _ F1 al1 H1 rel1 .refl (.str w1)
theorem sj_nil : SJ X K W [] [] [] := .nil
theorem sj_fmt {e : Expr} {te : TE} {m : M Va} {pos : Pos} {es : List Expr} {ts : List TE} {ms : List (M Str)} (he : SE X K W e te m) (r : SJ X K W es ts ms) : SJ X K W (.FormattedValue e (-1) none pos :: es) (tFmt te :: ts) (evFmt m :: ms) := .cons (pe_fmt he.2.1) (good_fmt he.2.2) r
theorem sj_str {e : Expr} {te : TE} {m : M Va} {es : List Expr} {ts : List TE} {ms : List (M Str)} (he : SE X K W e te m) (r : SJ X K W es ts ms) : SJ X K W (e :: es) (te :: ts) (evConst m :: ms) := .cons he.2.1 (good_const he.2.2) r
theorem se_joined {v1 v2 : Expr} {rest : List Expr} {ts : List TE} {ms : List (M Str)} {pos : Pos} (h : SJ X K W (v1 :: v2 :: rest) ts ms) (hK : X.K = K := by rfl) : SE X K W (.JoinedStr (v1 :: v2 :: rest) pos) (fun σ H Q => tJs ts Str.empty σ H fun out H1 => Q (.str out) H1) (evJoined ms) := ⟨hK, pe_joined h.pj, good_joined h⟩
end

/-! ### methods that read: of texts, of tuples and lists -/
def fEnds (a : Str) : D → Option Va
  | .str b => some (.im (.bl (Txt.endswith a b)))
  | _ => none
def fStarts (a : Str) : D → Option Va
  | .str b => some (.im (.bl (Txt.startswith a b)))
  | _ => none
abbrev rTxtB (g : Str → Str → Bool) : V → List V → Hp → VK → Prop := fun x xs H Q => ∃ a b, x = .str a ∧ xs = [.str b] ∧ Q (.bl (g a b)) H
section
variable {X : Cx} {W : Wx} {K : PySem.W.Frag} {name : Str} {o e : Expr} {apos pos : Pos} {to te : TE} {m n : M Va}
theorem m1s_ends : M1S K (rTxtB Txt.endswith) fEnds := fun E F al H σ s a y q va rel rq e Q hQ => by
  unfold fEnds at e
  split at e
  · cases e
    cases rq.str
    exact ⟨a, _, rfl, rfl, fin_d rel (.bl _) hQ⟩
  · cases e
theorem m1s_starts : M1S K (rTxtB Txt.startswith) fStarts := fun E F al H σ s a y q va rel rq e Q hQ => by
  unfold fStarts at e
  split at e
  · cases e
    cases rq.str
    exact ⟨a, _, rfl, rfl, fin_d rel (.bl _) hQ⟩
  · cases e
theorem se_ends (ho : SE X K W o to m) (he : SE X K W e te n) (hx : name = ("endswith" : Str) := by rfl) (hs : starEach [e] X.env = [(false, eval e X.env)] := by rfl) (hbase : attributeBase o "endswith" X.env (eval o X.env) = eval o X.env := by rfl) (hline : (apos.endLine == pos.line) = true := by rfl) :
    SE X K W (.Call (.Attribute o name apos) [e] [] pos) (tM1 (rTxtB Txt.endswith) to te) (ev1 fEnds m n) := by
  subst hx
  obtain ⟨rfl, po, go⟩ := ho
  obtain ⟨_, pe, ge⟩ := he
  exact ⟨rfl, pe_m1 PySem.F.slot_str_endswith PySem.F.type_str_endswith mt_endswith po pe hs hbase hline, good_m1 m1s_ends go ge⟩
theorem se_starts (ho : SE X K W o to m) (he : SE X K W e te n) (hx : name = ("startswith" : Str) := by rfl) (hs : starEach [e] X.env = [(false, eval e X.env)] := by rfl) (hbase : attributeBase o "startswith" X.env (eval o X.env) = eval o X.env := by rfl) (hline : (apos.endLine == pos.line) = true := by rfl) :
    SE X K W (.Call (.Attribute o name apos) [e] [] pos) (tM1 (rTxtB Txt.startswith) to te) (ev1 fStarts m n) := by
  subst hx
  obtain ⟨rfl, po, go⟩ := ho
  obtain ⟨_, pe, ge⟩ := he
  exact ⟨rfl, pe_m1 PySem.F.slot_str_startswith PySem.F.type_str_startswith mt_startswith po pe hs hbase hline, good_m1 m1s_starts go ge⟩
end
/-- reading methods of sequences -/
def BmS (K : PySem.W.Frag) (r : V → List V → Hp → VK → Prop) (f : D → List D → Option Va) : Prop := ∀ (E : Ent) (F : Hp) (al : List Addr) (H : Hp) (σ : L2.St) (s : S) (x : V) (p : D) (ds : List D) (vs : List V) (va : Va), Rel K E F al H σ s → Rdr K al F H p x → DatL K al F ds vs → f p ds = some va →
  ∀ Q : VK, (∀ w F' al' H', Rel K E F' al' H' σ s → Stp σ s s F al H F' al' H' → VaR K E H al' F' H' σ s w va → Q w H') → r x vs H Q
def evBm (isT : D → Bool) (f : D → List D → Option Va) (m : M Va) (args : M (List D)) : M Va := m >>= fun v s0 => match rd v s0 with
  | some p0 => if isT p0 = true then (args >>= fun ds s => match (rd v s).bind fun p => f p ds with
    | some x => .ok x s
    | none => .no) s0 else .no
  | none => .no
section
variable {X : Cx} {W : Wx} {K : PySem.W.Frag}
theorem good_bm {T : String} {isT : D → Bool} {r : V → List V → Hp → VK → Prop} {f : D → List D → Option Va} {to : TE} {ta : TA} {m : M Va} {args : M (List D)} (hT : ∀ (al : List Addr) (F H : Hp) (p : D) (w : V), isT p = true → Sub F H → Rdr K al F H p w → tyV K T w H) (hs : BmS K r f) (go : GoodE K W to m) (ga : GoodA K W ta args) : GoodE K W (tBM K T r to ta) (evBm isT f m args) := fun E F al H σ s rel => by
  refine Sat.bind (u := fun x H1 Q => tyV K T x H1 ∧ ta σ H1 fun xs H2 => r x xs H2 Q) VR.low (go E F al H σ s rel) fun va s1 w1 F1 al1 H1 _ rel1 st1 v1 => ?_
  cases ho : rd va s1 with
  | none => simp only [ho]; exact True.intro
  | some p0 =>
    simp only [ho]
    by_cases hi : isT p0 = true
    · rw [if_pos hi]
      have ty := hT al1 F1 H1 p0 w1 hi rel1.sub (rd_ok rel1 v1 ho)
      have q := Sat.bind (u := fun xs H2 Q => r w1 xs H2 Q) (VR.low (K := K) (E := E) (σ := σ)) (ga E F1 al1 H1 σ s1 rel1) (f := fun ds s => match (rd va s).bind fun p => f p ds with
        | some x => .ok x s
        | none => .no) fun ds s2 ws F2 al2 H2 _ rel2 st2 v2 => ?_
      · exact q.imp fun Q h => ⟨ty, h⟩
      · show Sat K E W _ F2 al2 H2 σ s2 _ (match (rd va s2).bind fun p => f p ds with
          | some x => .ok x s2
          | none => .no)
        cases hr : rd va s2 with
        | none => exact True.intro
        | some p =>
          simp only [Option.bind_some]
          cases hf : f p ds with
          | none => exact True.intro
          | some x => exact fun Q hQ => hs E F2 al2 H2 σ s2 w1 p ds ws x rel2 (rd_ok rel2 (v1.mono st2) hr) v2 hf Q hQ
    · rw [if_neg hi]; exact True.intro
/-- the first place of a text -/
def ixOf (z : Str) : List Str → Option Nat
  | [] => none
  | y :: ys => if y = z then some 0 else (ixOf z ys).map (· + 1)
theorem ixOf_ok {z : Str} : ∀ {ys : List Str} {j : Nat}, ixOf z ys = some j → ys[j]? = some z ∧ ∀ m, m < j → ys[m]? ≠ some z
  | [], _, h => by cases h
  | y :: ys, j, h => by
    unfold ixOf at h
    split at h
    · rename_i e
      cases h
      exact ⟨by rw [e]; rfl, fun m hm => by omega⟩
    · rename_i e
      cases hq : ixOf z ys with
      | none => rw [hq] at h; cases h
      | some i =>
        rw [hq] at h
        cases h
        obtain ⟨h1, h2⟩ := ixOf_ok hq
        refine ⟨h1, fun m hm => ?_⟩
        cases m with
        | zero => simpa using e
        | succ m => simpa using h2 m (by simp at hm; omega)
/-- x.index(text), x a tuple of texts of the top -/
def tupDB (K : PySem.W.Frag) (x : Str) : Bool := match K.lookup (He.ga K x) with
  | some ⟨.type c, none, _, _⟩ => decide (c = "tuple")
  | _ => false
theorem tupDB_ok {K : PySem.W.Frag} {x : Str} (h : tupDB K x = true) : ∃ o, K.lookup (He.ga K x) = some o ∧ o.cls = .type "tuple" ∧ o.dict = none := by
  unfold tupDB at h
  split at h
  · rename_i c dt sl q
    rw [of_decide_eq_true h] at q
    exact ⟨_, q, rfl, rfl⟩
  · cases h
def evIndexG (zs : List Str) (args : M (List D)) : M Va := args >>= fun ds => fun s => match ds with
  | [.str z] => (match ixOf z zs with
    | some j => .ok (.im (.int j)) s
    | none => .no)
  | _ => .no
abbrev rIndexT (K : PySem.W.Frag) : V → List V → Hp → VK → Prop := fun x xs H Q => ∃ p, ∃ ys : List Str, ∃ z j, x = .ref p ∧ xs = [.str z] ∧ SqT K H p (ys.map V.str) ∧ ys[j]? = some z ∧ (∀ m, m < j → ys[m]? ≠ some z) ∧ Q (.int (j : Nat)) H
theorem good_indexG {x : Str} {vs : List He.Dv} {zs : List Str} {ta : TA} {args : M (List D)} (ht : He.tupB K x vs = true) (hd : tupDB K x = true) (hv : vs.map (He.Dv.v K) = zs.map V.str) (ga : GoodA K W ta args) : GoodE K W (tBM K "tuple" (rIndexT K) (tC (.ref (He.ga K x))) ta) (evIndexG zs args) := fun E F al H σ s rel => by
  have q := Sat.bind (u := fun xs H2 Q => rIndexT K (.ref (He.ga K x)) xs H2 Q) (VR.low (K := K) (E := E) (σ := σ)) (ga E F al H σ s rel) (f := fun ds s => match ds with
    | [.str z] => (match ixOf z zs with
      | some j => .ok (.im (.int j)) s
      | none => .no)
    | _ => .no) fun ds s2 ws F2 al2 H2 _ rel2 st2 v2 => ?_
  · exact q.imp fun Q h => ⟨.inr (.inl ⟨rfl, tupDB_ok hd⟩), h⟩
  · have v2 : DatL K al2 F2 ds ws := v2
    split
    · rename_i z _ _
      obtain _ | ⟨d1, d2⟩ := v2
      cases d1; cases d2
      cases hj : ixOf z zs with
      | none => exact True.intro
      | some j =>
        obtain ⟨k1, k2⟩ := ixOf_ok hj
        have sq := He.tupB_ok ht H2
        rw [hv] at sq
        exact fun Q hQ => ⟨_, zs, z, j, rfl, rfl, sq, k1, k2, hQ _ F2 al2 H2 rel2 .refl (.int _)⟩
    · exact True.intro
theorem se_indexG {x name : Str} {vs : List He.Dv} {e : Expr} {p apos cpos : Pos} {ta : TA} {args : M (List D)} (zs : List Str) (hm : X.mg x = some (.ref (He.ga K x))) (ht : He.tupB K x vs = true) (hd : tupDB K x = true) (ha : SA X K W [e] ta args) (hv : vs.map (He.Dv.v K) = zs.map V.str := by rfl) (hg : Gl X x := by rfl) (hdb : (x == ("__debug__" : Str)) = false := by decide) (hx : name = ("index" : Str) := by rfl)
    (hbase : attributeBase (.Name x p) "index" X.env (eval (.Name x p) X.env) = eval (.Name x p) X.env := by rfl)
    (hfew : ((backTo cpos (starEach [e] X.env)).all (fun x => !x.1) && (backToKw cpos (keywordEach [] X.env)).all (fun x => x.1.isSome) && decide ([e].length + ([] : List Keyword).length + (if ([] : List Keyword).isEmpty then 0 else 1) < 30)) = true := by rfl)
    (hline : (apos.endLine == cpos.line) = true := by rfl) (hs : starEach [e] X.env = [(false, eval e X.env)] := by rfl) : SE X K W (.Call (.Attribute (.Name x p) name apos) [e] [] cpos) (tBM K "tuple" (rIndexT K) (tC (.ref (He.ga K x))) ta) (evIndexG zs args) := by
  subst hx
  obtain ⟨rfl, pa, ga⟩ := ha
  exact ⟨rfl, pe_bm PySem.F.plainAttrs_tuple PySem.F.slot_tuple_index PySem.F.type_tuple_index mt_tup_index (pe_glob hg hm rfl hdb) pa hbase hfew hline hs rfl, good_indexG ht hd hv ga⟩

/-! ### a table of the top: texts to tuples -/
abbrev TabD := List (Str × List He.Dv)
def tupAtB (K : PySem.W.Frag) (a : Addr) (vs : List He.Dv) : Bool := match K.lookup a with
  | some ⟨.type c, _, .seq its _, _⟩ => decide (c = "tuple") && (decide (its.size ≤ sizeLine) && He.relAll (vs.map (He.Dv.v K)) its.toList)
  | _ => false
theorem tupAtB_ok {K : PySem.W.Frag} {a : Addr} {vs : List He.Dv} (h : tupAtB K a vs = true) (H : Hp) : SqT K H a (vs.map (He.Dv.v K)) := by
  unfold tupAtB at h
  split at h
  · rename_i c od its n sl q
    obtain ⟨h1, h2⟩ := He.ba h
    obtain ⟨h3, h4⟩ := He.ba h2
    exact .inr ⟨_, its, n, q, congrArg Value.type (of_decide_eq_true h1), rfl, of_decide_eq_true h3, He.relAll_ok h4⟩
  · cases h
/-- the table x holds tab -/
def tabDB (K : PySem.W.Frag) (x : Str) (tab : TabD) : Bool := tab.all fun q => match PySem.W.nsIn K (He.ga K x) q.1 with
  | some (some (.ref a)) => tupAtB K a q.2 && (q.2.all dvFlat && decide (q.2.length ≤ sizeLine))
  | _ => false
def fTabD (x : Str) (tab : TabD) (c p : D) : Option Va := match c, p with
  | .fn y, .str z => if y = x then (tab.lookup z).map fun vs => .im (.tz (vs.map dvD)) else none
  | _, _ => none
abbrev rTabD (K : PySem.W.Frag) (d : Addr) : R2 := fun x y H Q => ∃ (z : Str) (u0 : Value) (v0 : V), x = .ref d ∧ y = .str z ∧ PySem.W.nsIn K d z = some (some u0) ∧ RelV v0 u0 ∧ Q v0 H
theorem ops_tabD {x : Str} {tab : TabD} (ht : tabDB K x tab = true) : OpS K (rTabD K (He.ga K x)) (fTabD x tab) := fun E F al H σ s u v p q va rel ru rv e Q hQ => by
  unfold fTabD at e
  split at e
  · rename_i y z
    split at e
    · rename_i ey
      subst ey
      cases hl : tab.lookup z with
      | none => rw [hl] at e; cases e
      | some vs =>
        rw [hl] at e
        cases e
        have q := List.all_eq_true.mp ht _ (PySem.mem_of_lookup hl)
        cases rv.str
        have eu : u = .ref (He.ga K y) := by
          rcases ru with ⟨q, _⟩ | ⟨a, ho, ob, e, h1, h2, h3⟩
          · cases q; rfl
          · cases ob <;> cases h3
        subst eu
        dsimp only at q
        split at q
        · rename_i a ha
          obtain ⟨h1, h2⟩ := He.ba q
          obtain ⟨h2, h3⟩ := He.ba h2
          exact ⟨z, .ref a, .ref a, rfl, rfl, ha, rfl, fin_d rel (.tz (tupAtB_ok h1 F) (dv_dat h2) (by rw [List.length_map]; exact of_decide_eq_true h3)) hQ⟩
        · cases q
    · cases e
  · cases e
theorem ix_tabD {d : Addr} {es : Array DictEntry} {n : Nat} (D : KDict X.K X.w d es n) : IxR X (rTabD X.K d) := by
  intro value slice pins s σ H x y v u Q I rx ry h hs
  have h2 := h
  obtain ⟨z, u0, v0, rfl, _⟩ := h
  cases rx
  exact PyProof.Rows.tail_any (kd_type D I) PySem.F.slot_dict_getitem.lookup (op_item_kd D pins s σ H (V.ref d) _ _ _ Q I rfl ry h2) hs
theorem se_tab {x : Str} {tab : TabD} {a b : Expr} {tha thb : TE} {ea eb : M Va} {pos : Pos} (hd : ∃ es n, KDict K X.w (He.ga K x) es n) (ht : tabDB K x tab = true) (ha : SE X K W a tha ea) (hb : SE X K W b thb eb) (hs : PlainIx b := by exact fun _ _ => rfl) : SE X K W (.Subscript a b pos) (tOp (rTabD K (He.ga K x)) tha thb) (evOp (fTabD x tab) ea eb) := by
  obtain ⟨rfl, pa, ga⟩ := ha
  obtain ⟨_, pb, gb⟩ := hb
  obtain ⟨es, n, D⟩ := hd
  exact ⟨rfl, pe_ix (ix_tabD D) pa pb hs, good_op ga gb (ops_tabD ht)⟩
end
end VI
end
section
set_option Elab.async false
set_option linter.all false
set_option maxRecDepth 100000
set_option maxHeartbeats 2000000
/-! V39: methods of defs, a law's classes from Bools of the fragment. -/
namespace VI
open PySem PySem.Spec PyProof.Rows L2

/-- a method called by position, des fill up -/
def m0 (f : Fs) (des : List D) : Fs2 := fun ds es st => f (ds ++ des) st
/-- n values with self, m keywords; is: the places -/
def mK (f : Fs) (n m : Nat) (is : List Nat) (ms : List D) : Fs2 := fun ds es st => if ds.length = n ∧ es.length = m then f (perm is (ds ++ (ms ++ es))) st else .no
section
variable {P : Program} {w : World} {K : PySem.W.Frag} {mg : Str → Option Value} {base : Heap} {k : Nat} {a : Addr} {fd : FuncData} {ps : List Str} {f : Fs}
theorem cb_m0 {des : List D} {ds : List Value} (F : FnOk P w K mg base (CV P w) k a fd ps (spOf K f)) (hb : Binds K fd ps ds) (hd : Vals (des.map D.v0) ds) (hf : des.all D.flat = true) : CbG P w K mg base k a [] (spC K (m0 f des)) := by
  refine (CbG.pos F hb hd).imp fun vs zs H Q E h => ?_
  obtain ⟨F0, al, st, xs, es, g, d, _, z⟩ := h
  exact ⟨F0, al, st, xs ++ des, g, d.app (flat_dat hf), z⟩
theorem cb_mK {n : Nat} {ks : List Str} {is : List Nat} {ms : List D} {g : List Value → List Value → List Value} {gV : List V → List V → List V} (F : FnOk P w K mg base (CV P w) k a fd ps (spOf K f)) (hb : KBn K fd ps n ks g gV)
    (hg : ∀ (ws zs : List V), ws.length = n → zs.length = ks.length → gV ws zs = perm is (ws ++ (ms.map D.v0 ++ zs))) (hf : ms.all D.flat = true) : CbG P w K mg base k a ks (spC K (mK f n ks.length is ms)) := by
  refine (CbG.kw F hb).imp fun vs zs H Q E h => ?_
  obtain ⟨F0, al, st, xs, es, g, d, d2, z⟩ := h
  unfold mK at z
  split at z
  · rename_i hl
    have l1 : vs.length = n := by rw [← d.length]; exact hl.1
    have l2 : zs.length = ks.length := by rw [← d2.length]; exact hl.2
    refine ⟨l1, ?_⟩
    rw [hg vs zs l1 l2]
    exact ⟨F0, al, st, _, g, perm_dat (d.app ((flat_dat hf).app d2)) is, z⟩
  · exact z.elim
end

/-! ### facts, as Bools of the fragment -/
def plainB (K : PySem.W.Frag) (cs : List Str) (f : Str) : Bool := cs.all fun c => (He.Fa.cls c).ok K && (He.Fa.noat c f).ok K
theorem plain_of {K : PySem.W.Frag} {cs : List Str} {f : Str} (h : plainB K cs f = true) : Plain K cs f := fun c hc => by
  obtain ⟨h1, h2⟩ := He.ba (List.all_eq_true.mp h c hc)
  exact ⟨He.cls_ok h1, He.noat_ok h2⟩
def methB (K : PySem.W.Frag) (c m : Str) : Bool := (He.Fa.cls c).ok K && (He.Fa.meth c m).ok K
def mkB (K : PySem.W.Frag) (c : Str) : Bool := (He.Fa.mkr c).ok K
/-- the class has object's own != -/
def neB (K : PySem.W.Frag) (c : Str) : Bool := methB K c "__eq__" && (He.eqO (PySem.W.findIn K (.ref (He.ga K c)) "__ne__") (some (some (.builtin "object.__ne__"))) && decide (PySem.W.subIn K (.ref (He.ga K c)) (.type "object") = some true))
def supB (K : PySem.W.Frag) (file c b : Str) : Bool := ccB K (ccAt K (c, some "__init__")) (He.ga K c) && (codeB K (c, some "__init__") file && ((PySem.W.clsIn K (He.ga K c)).isSome && (He.eqO (PySem.W.nsIn K cStatics "thirdparty.any") (some none) && supMB K (He.ga K c) (He.ga K c) (He.fAd K (b, some "__init__")))))
structure SupF (K : PySem.W.Frag) (file c b : Str) : Prop where
  cc : ccB K (ccAt K (c, some "__init__")) (He.ga K c) = true
  code : codeB K (c, some "__init__") file = true
  cls : (PySem.W.clsIn K (He.ga K c)).isSome = true
  stat : PySem.W.nsIn K cStatics "thirdparty.any" = some none
  mro : SupM K (He.ga K c) (He.ga K c) (He.fAd K (b, some "__init__"))
theorem supF_of {K : PySem.W.Frag} {file c b : Str} (h : supB K file c b = true) : SupF K file c b := by
  obtain ⟨h1, h⟩ := He.ba h
  obtain ⟨h2, h⟩ := He.ba h
  obtain ⟨h3, h⟩ := He.ba h
  obtain ⟨h4, h5⟩ := He.ba h
  exact ⟨h1, h2, h3, He.eqO_ok h4, supM_of h5⟩
section
variable {P : Program} {w : World} {K : PySem.W.Frag} {mg : Str → Option Value} {base : Heap} {k : Nat} {c m : Str} {ks : List Str}
theorem mthP_of {f : Fs2} (me : methB K c m = true) (h : CbG P w K mg base k (He.fAd K (c, some m)) ks (spC K f)) : MthP P w K mg base k c m ks f := by
  obtain ⟨h1, h2⟩ := He.ba me
  exact ⟨He.cls_ok h1, _, He.meth_ok h2, h⟩
theorem cmpP_of {f : Fs2} (me : methB K c m = true) (h : CbG P w K mg base k (He.fAd K (c, some m)) [] (spC K f)) : CmpP P w K mg base k c m f := by
  obtain ⟨h1, h2⟩ := He.ba me
  have M := He.meth_ok h2
  exact ⟨_, M.at_, M.fn, h⟩
theorem cmpQ_of {f : Fs2} (me : neB K c = true) (h : CbG P w K mg base k (He.fAd K (c, some "__eq__")) [] (spC K f)) : CmpQ P w K mg base k c f := by
  obtain ⟨h1, h2⟩ := He.ba me
  obtain ⟨h3, h4⟩ := He.ba h2
  have M := He.meth_ok (He.ba h1).2
  exact ⟨_, ⟨He.eqO_ok h3, of_decide_eq_true h4⟩, M.at_, M.fn, h⟩
theorem mkP_of {f : FsIK} (mk : mkB K c = true) (hm : mg c = some (.ref (He.ga K c))) (h : CbG P w K mg base k (He.fAd K (c, some "__init__")) ks (spIK K f)) : MkP P w K mg base k c ks f := ⟨_, He.mkr_ok mk, h, hm⟩
theorem supP_of {f : FsIK} {file b : Str} (s : SupF K file c b) (h : CbG P w K mg base k (He.fAd K (b, some "__init__")) ks (spIK K f)) : SupP P w K mg base k c (He.ga K c) ks f := ⟨_, s.mro, h⟩
end
/-- str(x) of a text or an int -/
def fStr1 : List D → Option Va
  | [.str z] => some (.im (.str z))
  | [.int i] => if i.natAbs.log2 < 1920 then some (.im (.str (toString i))) else none
  | _ => none
def rStr1 : List V → Hp → VK → Prop := fun xs H Q => (fun xs H Q => ∃ a, xs = [V.str a] ∧ Q (.str a) H) xs H Q ∨ (fun xs H Q => ∃ i, xs = [V.int i] ∧ i.natAbs.log2 < 1920 ∧ Q (.str (toString i)) H) xs H Q
theorem bls_str1 {K : PySem.W.Frag} : BlS K rStr1 fStr1 := fun E F al H σ s ws ps va rel rr e Q hQ => by
  unfold fStr1 at e
  split at e
  · cases e
    obtain ⟨w, rfl, r⟩ := rr.one
    cases r.str
    exact .inl ⟨_, rfl, fin_d rel (.str _) hQ⟩
  · split at e
    · rename_i i hi
      cases e
      obtain ⟨w, rfl, r⟩ := rr.one
      cases r.int
      exact .inr ⟨i, rfl, hi, fin_d rel (.str _) hQ⟩
    · cases e
  · cases e
theorem se_str1 {X : Cx} {W : Wx} {K : PySem.W.Frag} {x : Str} {p pos : Pos} {a : Expr} {th : TA} {m : M (List Va)} (hm : X.mg "str" = none) (ha : SV X K W [a] th m) (hx : x = ("str" : Str) := by rfl) (hg : Gl X "str" := by rfl) (he : starEach [a] X.env = [(false, eval a X.env)] := by rfl) : SE X K W (.Call (.Name x p) [a] [] pos) (tCB rStr1 th) (evBl fStr1 m) := by
  subst hx
  exact se_ty (VI.CallR.or SkE.call_str_str call_str_int) bls_str1 PyProof.Rows.boot_str hm ha hg (by decide) (by decide) he rfl
/-- one table for all classes -/
theorem tbl_all {α : Type} {p : Str → α → Prop} {l : List (Str × α)} (h : ∀ q ∈ l, p q.1 q.2) : ∀ c f, l.lookup c = some f → p c f := fun c f e => h _ (PySem.mem_of_lookup e)
end VI
end
section
set_option Elab.async false
set_option linter.all false
set_option maxRecDepth 100000
set_option maxHeartbeats 2000000
/-! V40: super().__init__(.., *words). -/
namespace VI
open PySem PySem.Spec PyProof.Rows L2 NdefX

/-- the attribute of a super object, loaded as a value -/
def attrOf (name : Str) (ov : Value) : Sem (Value × List Value) := do pure (← getAttr ov name true, [])
section
variable {prog : Program} {w : World} {A : Around} {E : Value → Shared → Prop} {h : Heap} {g : Array GenState} {d : Drawn} {t : Nat} {os : OsState}
open PySem.W in
theorem attr_super {a D x C f : Addr} {fo : Obj} {ms rest : List Value} {K : Frag} {name : Str} {Q : Value × List Value → Shared → Prop} (X : K.In h) (hx : (x = C) = False) (hn : (name == ("__class__" : Str)) = false) (hf : h.get? f = some fo) (hc : fo.cls = .type "function")
    (ho : h.get? a = some (ks_superObj D x C)) (hm : Looks (model prog w) h (mroOf (.ref C)) ms) (hr : (ms.dropWhile (· != .ref D)).drop 1 = rest) (ha : alongIn K name rest = some (some (.ref f))) (hq0 : Looks (model prog w) h (opaqueClassAbove (.ref C)) none)
    (hQ : Q (.ref h.objs.size, []) ⟨h.push (methodObj (.ref f) (.ref x)), g, d, t + 1, os⟩) : wpAny (model prog w) A (attrOf name (.ref a)) Q E ⟨h, g, d, t, os⟩ := by
  have ty : ∀ n, (⟨h, g, d, n, os⟩ : Shared).TypeIs (.ref a) "super" := fun n => ⟨_, ho, rfl⟩
  unfold attrOf
  refine wpAny_bind ?_
  unfold getAttr
  refine wpAny_bind (wpAny_mkText ?_)
  unfold getAttrBy
  refine wpAny_holding (wpAny_bind (wpAny_typeOf (ty _) (wpAny_bind (wpAny_of_eq PySem.F.ks_slot_super_ga.lookup ?_))))
  show wpAny (model prog w) A (getAttrByItsOwn (.ref a) (.str name t) (.type "super") (.builtin "super.__getattribute__") true true) _ E _
  unfold getAttrByItsOwn
  have hb : hookBefore (.type "super") = pure none := by unfold hookBefore; rfl
  refine wpAny_bind (wpAny_of_eq hb (wpAny_bind (wpAny_attempt (wpAny_holding ?_))))
  have cg : callGetattribute (.ref a) (.str name t) (.builtin "super.__getattribute__") true = boundAndCalled (.builtin "super.__getattribute__") (.ref a) (.str name t) := by
    unfold callGetattribute
    rfl
  rw [cg]
  unfold boundAndCalled
  refine wpAny_bind (wpAny_of_eq (PySem.F.ks_slot_super_ga.bind _) ?_)
  have go := ks_wpAny_super_ga (A := A.in1) (E := fun _ _ => False) (g := g) (d := d) (t := t + 1) (os := os) (tk := t) (prog := prog) (w := w)
    (Q := fun fin s' => ∃ v : Value, fin = Fin.done (.ret v) ∧ v = Value.ref h.objs.size ∧ s' = ⟨h.push (methodObj (.ref f) (.ref x)), g, d, t + 1, os⟩) ho hq0 hm hr X ha hf hc (fun z => by rw [hx] at z; exact z) hn ⟨_, rfl, rfl, rfl⟩
  refine wpAny_mono (E := fun _ _ => False) (Q := fun (v : Value) (s' : Shared) => v = Value.ref h.objs.size ∧ s' = ⟨h.push (methodObj (.ref f) (.ref x)), g, d, t + 1, os⟩) (wpAny_call_entry PySem.F.ks_slot_super_ga (ty _) PySem.F.ks_entry_super_ga go (PySem.F.ks_gaArgs_super _ _)) (fun v s' z => ?_) fun _ _ z => z.elim
  obtain ⟨rfl, rfl⟩ := z
  exact wpAny_pure (wpAny_pure hQ)
end
section
variable {M : Model} {A : Around} {c : Code} {env : Env} {s : Shared} {E : Value → Shared → Prop}
theorem at_methG {o : Expr} {name : Str} {apos pos : Pos} {args : List Expr} {kws : List Keyword} {gm : Value → Sem (Value × List Value)} {Q : Value → Shared → Prop}
    (h : _root_.PySem.wpAt M A c (attributeBase o name env (eval o env)) (fun ov s1 => wpAny M A (gm ov) (fun fx s2 => wpAny M A (callWith pos fx.1 fx.2 (backTo pos (starEach args env)) (backToKw pos (keywordEach kws env))) Q E s2) E s1) E s)
    (he : eval (.Call (.Attribute o name apos) args kws pos) env = (do
      let ov ← attributeBase o name env (eval o env)
      standAt apos.atName
      let (f, first) ← holding [ov] (gm ov)
      callWith pos f first (backTo pos (starEach args env)) (backToKw pos (keywordEach kws env)))) : _root_.PySem.wpAt M A c (eval (.Call (.Attribute o name apos) args kws pos) env) Q E s := by
  rw [he]
  refine _root_.PySem.wpAt_bind (_root_.PySem.wpAt_mono h (fun ov s1 h1 => _root_.PySem.wpAt_of_wpAny (wpAny_bind (wpAny_standAt (wpAny_bind (wpAny_holding (wpAny_mono h1 (fun fx s2 h2 => ?_) fun _ _ z => z)))))) fun _ _ z => z)
  exact h2
end
section
variable {X : Cx} {pins : List (Addr × Obj)} {σ : L2.St} {H : Hp} {s : Shared} {a dx C D g : Addr} {us : List (Str × V)} {A : Around} {E : Value → Shared → Prop}
theorem get_superS {so : Addr} {Q : Value × List Value → Shared → Prop} (S : PySem.W.nsIn X.K cStatics "thirdparty.any" = some none) (I : Inv X ((so, PySem.W.ks_superObj D a C) :: pins) σ H s) (ha : H a = some (.ins C dx us)) (M : SupM X.K C D g)
    (h : ∀ q s1, Inv X ((q, PySem.W.methodObj (.ref g) (.ref a)) :: (so, PySem.W.ks_superObj D a C) :: pins) σ H s1 → X.base.get? q = none → Q (.ref q, []) s1) : wpAny (model X.prog X.w) A (attrOf "__init__" (.ref so)) Q E s := by
  have KX := I.kIn
  obtain ⟨mA, O, _⟩ := ins_get I.hok ha
  obtain ⟨od, J, _⟩ := O.look
  have hs := ClX.pin_at I
  have hM := M.at_
  cases hc : PySem.W.clsIn X.K C with
  | none => unfold PySem.W.ks_superIn at hM; rw [hc] at hM; cases hM
  | some cd =>
    unfold PySem.W.ks_superIn at hM
    rw [hc] at hM
    obtain ⟨of, hof, hfc⟩ : ∃ of, s.heap.get? g = some of ∧ of.cls = .type "function" := by
      have ht : (X.K.lookup g).map (·.cls) = some (.type "function") := M.ty
      cases z : X.K.lookup g with
      | none => rw [z] at ht; cases ht
      | some of => rw [z] at ht; exact ⟨of, KX _ _ z, Option.some.inj ht⟩
    have ne := PySem.W.ks_ne KX J hc
    obtain ⟨hh, gg, dd, tt, oo⟩ := s
    refine attr_super KX (by simpa using ne) (by decide) hof hfc hs (ms := cd.mro) ?_ rfl hM (PySem.W.looks_opaque KX S) ?_
    · exact fun A Q E s k q => wpAny_bind ((PySem.W.looks_clsIn KX hc) A _ E s k (wpAny_pure q))
    · exact h _ _ (ClX.met_new I) (ClX.base_none I (Nat.le_refl _))
end
section
variable {X : Cx} {C D g : Addr} {k : Nat} {sp : SpK} {E : L2.St → XK} {x0 : Str} {body : List Stmt} {e : Expr} {es : List Expr} {t : TA} {p0 p1 apos pos p2 : Pos}
theorem p1_supS (S : SupX X x0 D) (M : SupM X.K C D g) (F : CbG X.prog X.w X.K X.mg X.base k g [] sp) (hr : Room k X.A) (hx : ∀ σ, PassesAt (CV X.prog X.w) X σ (E σ)) (ha : PA X (e :: es) t) (hmg : X.mg "super" = none)
    (hN : X.N[0]? = some x0) (hks : X.env.kindOf "super" = some .globalImplicit) (hkc : X.env.kindOf "__class__" = some .free) (hka : X.env.kindOf x0 = some .local) (he : starEach (e :: es) X.env = (false, eval e X.env) :: starEach es X.env)
    (ht : eval (.Call (.Attribute (.Call (.Name "super" p0) [] [] p1) "__init__" apos) (e :: es) [] pos) X.env = (do
      let ov ← attributeBase (.Call (.Name "super" p0) [] [] p1) "__init__" X.env (eval (.Call (.Name "super" p0) [] [] p1) X.env)
      standAt apos.atName
      let (f, first) ← holding [ov] (attrOf "__init__" ov)
      callWith pos f first (backTo pos (starEach (e :: es) X.env)) (backToKw pos (keywordEach [] X.env))))
    (hi : interactive X.env = false) (hs : swapsWith (.Call (.Attribute (.Call (.Name "super" p0) [] [] p1) "__init__" apos) (e :: es) [] pos) none p2.line X.env = pure false) :
    P1At X (.func body X.env) (.Expr (.Call (.Attribute (.Call (.Name "super" p0) [] [] p1) "__init__" apos) (e :: es) [] pos) p2) (tSup C 0 sp E t tNil) := by
  refine ⟨fun pins s σ H D' I h => ?_⟩
  obtain ⟨a, dx, us, h0, h1, h⟩ := h
  refine PySem.ks_wpAt_Expr_any (at_methG (gm := attrOf "__init__") (at_super S I h0 hN h1 M.sub hmg hks hkc hka (by decide) fun so s1 I1 => ?_) ht) hi hs
  refine get_superS S.stat I1 h1 M fun q s2 I2 hb => ?_
  refine cw_rec (a := a) M.fn he (thn (ha.run pos _ s2 σ H _ I2 h) fun us s3 ⟨vs, H1, I3, r, z⟩ => ⟨⟨ClX.pin_at I3, I3.kIn⟩, ?_⟩)
  refine thn (run_rec (ks := []) (ws := []) F hr (hx σ) I3 r .nil rfl z.2) fun u s' ⟨v, H', I', _, z⟩ => ?_
  exact ⟨σ, H', ClX.unpin (ClX.unpin I'), z⟩
end
section
variable {X : Cx} {W : Wx} {K : PySem.W.Frag} {Dc : Addr} {k : Nat} {c x0 : Str} {f : FsIK} {body : List Stmt} {e : Expr} {es : List Expr} {t : TA} {m : M (List D)} {p0 p1 apos pos p2 : Pos}
theorem s1_supS (S : SupX X x0 Dc) (F : SupP X.prog X.w K X.mg X.base k c Dc [] f) (hr : Room k X.A) (hx : ∀ σ, PassesAt (CV X.prog X.w) X σ (WE W σ)) (ha : SA X K W (e :: es) t m) (hmg : X.mg "super" = none)
    (hN : X.N[0]? = some x0 := by rfl) (hks : X.env.kindOf "super" = some .globalImplicit := by rfl) (hkc : X.env.kindOf "__class__" = some .free := by rfl) (hka : X.env.kindOf x0 = some .local := by rfl)
    (he : starEach (e :: es) X.env = (false, eval e X.env) :: starEach es X.env := by rfl)
    (ht : eval (.Call (.Attribute (.Call (.Name "super" p0) [] [] p1) "__init__" apos) (e :: es) [] pos) X.env = (do
      let ov ← attributeBase (.Call (.Name "super" p0) [] [] p1) "__init__" X.env (eval (.Call (.Name "super" p0) [] [] p1) X.env)
      standAt apos.atName
      let (f, first) ← holding [ov] (attrOf "__init__" ov)
      callWith pos f first (backTo pos (starEach (e :: es) X.env)) (backToKw pos (keywordEach [] X.env))) := by rfl)
    (hi : interactive X.env = false := by rfl) (hs : swapsWith (.Call (.Attribute (.Call (.Name "super" p0) [] [] p1) "__init__" apos) (e :: es) [] pos) none p2.line X.env = pure false := by rfl) :
    S1At X K W (.func body X.env) (.Expr (.Call (.Attribute (.Call (.Name "super" p0) [] [] p1) "__init__" apos) (e :: es) [] pos) p2) (tSup (He.ga K c) 0 (spIK K f) (WE W) t tNil) (svSup f c m 0 evNil) := by
  obtain ⟨rfl, pa, ga⟩ := ha
  obtain ⟨g, h1, h2⟩ := F.fn
  exact ⟨rfl, p1_supS S h1 h2 hr hx pa hmg hN hks hkc hka he ht hi hs, good_sup ga (sa_nil (X := X) (W := W)).2.2⟩
end
end VI
end
section
set_option Elab.async false
set_option linter.all false
set_option maxRecDepth 100000
set_option maxHeartbeats 2000000
/-! V41: what is to be shown of inits, attributes, own comparisons, texts made of parts. -/
namespace VI
open PySem

/-! ### inits -/
def WpI (r : FrI) (Q : List (Str × D) → List Ob → Prop) (X : Xc → List Ob → Prop) : Prop := match r with
  | .ok fs st => Q fs st
  | .ex x st => X x st
  | .no => False
@[simp] theorem wpi_ok (fs : List (Str × D)) (st : List Ob) (Q : List (Str × D) → List Ob → Prop) (Y : Xc → List Ob → Prop) : WpI (.ok fs st) Q Y = Q fs st := rfl
theorem WpI.mono {r : FrI} {Q Q' : List (Str × D) → List Ob → Prop} {X X' : Xc → List Ob → Prop} (h : WpI r Q X) (hq : ∀ v st, Q v st → Q' v st) (hx : ∀ x st, X x st → X' x st) : WpI r Q' X' := by
  cases r with
  | ok v st => exact hq _ _ h
  | ex x st => exact hx _ _ h
  | no => exact h
/-- what self has at the end -/
def selfO (c : Str) : Option Sl → Option (List (Str × D))
  | some (.ow true (.ins c' fs)) => if c' = c then some fs else none
  | _ => none
theorem selfF_eq (c : Str) (s : S) (Q : List (Str × D) → List Ob → Prop) (Y : Xc → List Ob → Prop) : WpI (selfF c s) Q Y = OW (selfO c s.env[0]?) fun fs => Q fs s.st := by
  unfold selfF selfO
  cases h0 : s.env[0]? with
  | none => rfl
  | some sl =>
    cases sl with
    | ow p o =>
      cases p with
      | true =>
        cases o with
        | ins c' fs =>
          dsimp only
          by_cases h : c' = c
          · simp only [h, if_true]; rfl
          · simp only [h, if_false]; rfl
        | _ => rfl
      | false => rfl
    | _ => rfl
theorem wpi_init (n N : Nat) (sv : Sx) (c : Str) (fs : List (Str × D)) (ds : List D) (st : List Ob) (Q : List (Str × D) → List Ob → Prop) (Y : Xc → List Ob → Prop) : WpI (initOf n N sv c fs ds st) Q Y = (ds.length + 1 = n ∧ WpS (sv ⟨.ow true (.ins c fs) :: (ds.map .im ++ List.replicate (N - n) .un), st⟩) (fun s => OW (selfO c s.env[0]?) fun fs => Q fs s.st) (fun v s => v = .im .non ∧ OW (selfO c s.env[0]?) fun fs => Q fs s.st) (fun _ => False) (fun _ => False) fun x s => Y x s.st) := by
  unfold initOf
  by_cases h : ds.length + 1 = n
  · rw [if_pos h]
    simp only [h, true_and]
    cases sv ⟨.ow true (.ins c fs) :: (ds.map .im ++ List.replicate (N - n) .un), st⟩ with
    | nx s => exact selfF_eq c s Q Y
    | rt v s =>
      cases v with
      | im d =>
        cases d with
        | non => simp only [WpS, true_and]; exact selfF_eq c s Q Y
        | _ => simp [WpI, WpS]
      | _ => simp [WpI, WpS]
    | ex x s => rfl
    | bk s => rfl
    | ct s => rfl
    | no => rfl
  · rw [if_neg h]
    simp [h, WpI]
@[simp] theorem wpi_initC (n N : Nat) (k : Str) (sv : Sx) (c : Str) (fs : List (Str × D)) (ds : List D) (st : List Ob) (Q : List (Str × D) → List Ob → Prop) (Y : Xc → List Ob → Prop) : WpI (initC n N k sv c fs ds st) Q Y = WpI (initOf (n + 1) N sv c fs (ds ++ [.fn k]) st) Q Y := rfl
@[simp] theorem wpi_ipos (f : FsI) (des : List D) (c : Str) (fs : List (Str × D)) (ds es : List D) (st : List Ob) (Q : List (Str × D) → List Ob → Prop) (Y : Xc → List Ob → Prop) : WpI (ipos f des c fs ds es st) Q Y = WpI (f c fs (ds ++ des) st) Q Y := rfl
@[simp] theorem wpi_ikw (f : FsI) (n m : Nat) (is : List Nat) (ms : List D) (c : Str) (fs : List (Str × D)) (ds es : List D) (st : List Ob) (Q : List (Str × D) → List Ob → Prop) (Y : Xc → List Ob → Prop) : WpI (ikw f n m is ms c fs ds es st) Q Y = ((ds.length + 1 = n ∧ es.length = m) ∧ WpI (f c fs (perm is (ds ++ (ms ++ es))) st) Q Y) := by
  unfold ikw
  by_cases h : ds.length + 1 = n ∧ es.length = m
  · rw [if_pos h]; simp [h]
  · rw [if_neg h]; simp only [h, false_and]; rfl
@[simp] theorem wpi_istar (f : FsI) (n : Nat) (c : Str) (fs : List (Str × D)) (ds es : List D) (st : List Ob) (Q : List (Str × D) → List Ob → Prop) (Y : Xc → List Ob → Prop) : WpI (istar f n c fs ds es st) Q Y = ((n ≤ ds.length ∧ (ds.drop n).length ≤ sizeLine) ∧ WpI (f c fs (ds.take n ++ [.tup (ds.drop n)]) st) Q Y) := by
  unfold istar
  by_cases h : n ≤ ds.length ∧ (ds.drop n).length ≤ sizeLine
  · rw [if_pos h]; simp only [h, and_self, true_and]
  · rw [if_neg h]; simp only [h, false_and]; rfl
section
variable {s : S} {X : Xc → S → Prop} {Q : Va → S → Prop} {m a b : M Va}
@[simp] theorem wp_make (f : FsIK) (c : Str) (r q : M (List D)) (k : Nat) : Wp (evMake f c r k q) s Q X = Wp r s (fun ds s1 => Wp q s1 (fun es s2 => es.length = k ∧ WpI (f c [] ds es s2.st) (fun fs st => Q (.fr (.ins c fs)) { s2 with st := st }) fun x st => X x { s2 with st := st }) X) X := by
  unfold evMake
  refine (wp_bind _ _ _).trans (congrArg (fun z => Wp r s z X) (funext fun ds => funext fun s1 => ?_))
  refine (wp_bind _ _ _).trans (congrArg (fun z => Wp q s1 z X) (funext fun es => funext fun s2 => ?_))
  unfold Wp
  try dsimp only
  by_cases h : es.length = k
  · simp only [h, if_true, true_and]
    cases f c [] ds es s2.st <;> rfl
  · simp only [h, if_false, false_and]
/-! ### attributes -/
@[simp] theorem wp_attr (cs : List Str) (f : Str) : Wp (evAttr cs f m) s Q X = Wp m s (fun v s1 => OW (rd v s1) fun p => OW (fAttr cs f p) fun w => Q w s1) X := by
  unfold evAttr
  refine (wp_bind _ _ _).trans (congrArg (fun z => Wp m s z X) (funext fun v => funext fun s1 => ?_))
  unfold Wp
  try dsimp only
  cases rd v s1 with
  | none => rfl
  | some p => simp only [Option.bind_some, ow_some]; cases fAttr cs f p <;> rfl
variable {nx bk ct : S → Prop} {rt : Va → S → Prop} {ex : Xc → S → Prop}
@[simp] theorem ws_attr (cs : List Str) (f : Str) (ev eo : M Va) : WpS (svAttr cs f ev eo s) nx rt bk ct ex = Wp ev s (fun v s1 => Wp (esc v) s1 (fun d s2 => Wp eo s2 (fun o s3 => OW (obV o s3) fun ob => OW (fPutA cs f d ob) fun ob' => nx (putV o ob' s3)) ex) ex) ex := by
  unfold svAttr
  rw [ws_let]
  refine (wp_bind _ _ _).trans ((wp_bind _ _ _).trans ?_)
  refine congrArg (fun z => Wp ev s z ex) (funext fun v => funext fun s1 => congrArg (fun z => Wp (esc v) s1 z ex) (funext fun d => funext fun s2 => ?_))
  refine (wp_bind _ _ _).trans (congrArg (fun z => Wp eo s2 z ex) (funext fun o => funext fun s3 => ?_))
  rw [wp_pure]
  cases ho : obV o s3 with
  | none => simp [ho, WpS]
  | some ob =>
    simp only [ho, ow_some, Option.bind_some]
    cases fPutA cs f d ob <;> rfl
@[simp] theorem ws_never : WpS (svNever s) nx rt bk ct ex = False := rfl
/-- super().__init__ -/
theorem ws_sup (f : FsIK) (c : Str) (r q : M (List D)) (n : Nat) {fs0 : List (Str × D)} (h0 : s.env[0]? = some (.ow true (.ins c fs0))) : WpS (svSup f c r n q s) nx rt bk ct ex = Wp r s (fun ds s1 => Wp q s1 (fun es s2 => OW (selfO c s2.env[0]?) fun fs => es.length = n ∧ WpI (f c fs ds es s2.st) (fun fs' st => nx ⟨s2.env.set 0 (.ow true (.ins c fs')), st⟩) fun x st => ex x ⟨s2.env.set 0 .un, st⟩) ex) ex := by
  unfold svSup
  rw [h0]
  simp only [if_true]
  rw [ws_let]
  refine congrArg (fun z => Wp r s z ex) (funext fun ds => funext fun s1 => ?_)
  rw [ws_let]
  refine congrArg (fun z => Wp q s1 z ex) (funext fun es => funext fun s2 => ?_)
  unfold selfO
  cases h : s2.env[0]? with
  | none => rfl
  | some sl =>
    cases sl with
    | ow p o =>
      cases p with
      | true =>
        cases o with
        | ins c1 fs =>
          dsimp only
          by_cases hc : c1 = c
          · by_cases hn : es.length = n
            · simp only [hc, hn, and_self, if_true, ow_some, true_and]
              cases f c fs ds es s2.st <;> rfl
            · simp only [hn, and_false, if_false, ow_some, hc, if_true, false_and]; rfl
          · simp only [hc, false_and, if_false]; rfl
        | _ => rfl
      | false => rfl
    | _ => rfl
@[simp] theorem ws_par3 (i j l : Nat) (r : M (List D)) : WpS (svPar3 i j l r s) nx rt bk ct ex = Wp r s (fun ds s1 => ∃ a b c, ds = [a, b, c] ∧ nx (setIm l c (setIm j b (setIm i a s1)))) ex := by
  unfold svPar3
  rw [ws_let]
  refine congrArg (fun z => Wp r s z ex) (funext fun ds => funext fun s1 => ?_)
  split
  · apply propext
    constructor
    · intro h; exact ⟨_, _, _, rfl, h⟩
    · rintro ⟨a, b, c, e, h⟩; cases e; exact h
  · rename_i hn
    apply propext
    constructor
    · intro h; exact h.elim
    · rintro ⟨a, b, c, rfl, _⟩; exact hn a b c rfl
/-! ### own comparisons, own texts -/
/-- an own ==, whose answer is a bool -/
def WpB (r : Fr) (s : S) (Q : Bool → S → Prop) (X : Xc → S → Prop) : Prop := WpF r (fun v st => OW (blV v) fun b => Q b { s with st := st }) fun x st => X x { s with st := st }
def WpX (tbl : MTab) (tab : IsTab) (f : D → D → Option Va) (g0 : Bool → Bool) (p q : D) (s : S) (Q : Va → S → Prop) (X : Xc → S → Prop) : Prop := match clsAt p s with
  | some (c, _) => OW (tbl.lookup c) fun g => OW (tab.lookup c) fun _ => nfAt tab c q s = true ∧ WpB (g [p, q] [] s.st) s (fun b s' => Q (.im (.bl (g0 b))) s') X
  | none => OW (rd (.im p) s) fun p' => OW (rd (.im q) s) fun q' => OW (f p' q') fun v => Q v s
theorem wp_cmpX (tbl : MTab) (tab : IsTab) (f : D → D → Option Va) : Wp (evCmpX tbl tab f a b) s Q X = Wp a s (fun u s1 => Wp (esc u) s1 (fun p s2 => Wp b s2 (fun v s3 => Wp (esc v) s3 (fun q s4 => WpX tbl tab f id p q s4 Q X) X) X) X) X := by
  unfold evCmpX
  refine (wp_bind _ _ _).trans ((wp_bind _ _ _).trans ?_)
  refine congrArg (fun z => Wp a s z X) (funext fun u => funext fun s1 => congrArg (fun z => Wp (esc u) s1 z X) (funext fun p => funext fun s2 => ?_))
  refine (wp_bind _ _ _).trans ((wp_bind _ _ _).trans ?_)
  refine congrArg (fun z => Wp b s2 z X) (funext fun v => funext fun s3 => congrArg (fun z => Wp (esc v) s3 z X) (funext fun q => funext fun s4 => ?_))
  unfold WpX Wp
  try dsimp only
  cases hc : clsAt p s4 with
  | none =>
    dsimp only
    cases rd (.im p) s4 with
    | none => rfl
    | some p' =>
      cases rd (.im q) s4 with
      | none => rfl
      | some q' => simp only [ow_some]; cases f p' q' <;> rfl
  | some r =>
    obtain ⟨c, fs⟩ := r
    dsimp only
    cases tbl.lookup c with
    | none => rfl
    | some g =>
      cases tab.lookup c with
      | none => rfl
      | some l =>
        simp only [ow_some]
        by_cases hn : nfAt tab c q s4 = true
        · simp only [hn, if_true, true_and]
          unfold WpB
          cases g [p, q] [] s4.st with
          | ok v st =>
            cases v with
            | im d => cases d <;> rfl
            | _ => rfl
          | ex x st => rfl
          | no => rfl
        · rw [if_neg hn]; exact propext ⟨fun z => z.elim, fun z => hn z.1⟩
theorem wp_cmpN (tbl : MTab) (tab : IsTab) (f : D → D → Option Va) : Wp (evCmpN tbl tab f a b) s Q X = Wp a s (fun u s1 => Wp (esc u) s1 (fun p s2 => Wp b s2 (fun v s3 => Wp (esc v) s3 (fun q s4 => WpX tbl tab f (fun b => !b) p q s4 Q X) X) X) X) X := by
  unfold evCmpN
  refine (wp_bind _ _ _).trans ((wp_bind _ _ _).trans ?_)
  refine congrArg (fun z => Wp a s z X) (funext fun u => funext fun s1 => congrArg (fun z => Wp (esc u) s1 z X) (funext fun p => funext fun s2 => ?_))
  refine (wp_bind _ _ _).trans ((wp_bind _ _ _).trans ?_)
  refine congrArg (fun z => Wp b s2 z X) (funext fun v => funext fun s3 => congrArg (fun z => Wp (esc v) s3 z X) (funext fun q => funext fun s4 => ?_))
  unfold WpX Wp
  try dsimp only
  cases hc : clsAt p s4 with
  | none =>
    dsimp only
    cases rd (.im p) s4 with
    | none => rfl
    | some p' =>
      cases rd (.im q) s4 with
      | none => rfl
      | some q' => simp only [ow_some]; cases f p' q' <;> rfl
  | some r =>
    obtain ⟨c, fs⟩ := r
    dsimp only
    cases tbl.lookup c with
    | none => rfl
    | some g =>
      cases tab.lookup c with
      | none => rfl
      | some l =>
        simp only [ow_some]
        by_cases hn : nfAt tab c q s4 = true
        · simp only [hn, if_true, true_and]
          unfold WpB
          cases g [p, q] [] s4.st with
          | ok v st =>
            cases v with
            | im d => cases d <;> rfl
            | _ => rfl
          | ex x st => rfl
          | no => rfl
        · rw [if_neg hn]; exact propext ⟨fun z => z.elim, fun z => hn z.1⟩
def WpSt (tbl : MTab) (p : D) (s : S) (Q : Va → S → Prop) (X : Xc → S → Prop) : Prop := match clsAt p s with
  | some (c, _) => OW (tbl.lookup c) fun g => WpF (g [p] [] s.st) (fun v st => OW (stV v) fun z => Q (.im (.str z)) { s with st := st }) fun x st => X x { s with st := st }
  | none => (match p with
    | .str z => Q (.im (.str z)) s
    | .int i => i.natAbs.log2 < 1920 ∧ Q (.im (.str (toString i))) s
    | _ => False)
theorem wp_strO (tbl : MTab) : Wp (evStrO tbl a) s Q X = Wp a s (fun u s1 => Wp (esc u) s1 (fun p s2 => WpSt tbl p s2 Q X) X) X := by
  unfold evStrO
  refine (wp_bind _ _ _).trans ((wp_bind _ _ _).trans ?_)
  refine congrArg (fun z => Wp a s z X) (funext fun u => funext fun s1 => congrArg (fun z => Wp (esc u) s1 z X) (funext fun p => funext fun s2 => ?_))
  unfold WpSt Wp
  try dsimp only
  cases hc : clsAt p s2 with
  | none =>
    dsimp only
    cases p with
    | int i => by_cases h : i.natAbs.log2 < 1920 <;> simp [h]
    | _ => rfl
  | some r =>
    obtain ⟨c, fs⟩ := r
    dsimp only
    cases tbl.lookup c with
    | none => rfl
    | some g =>
      simp only [ow_some]
      cases g [p] [] s2.st with
      | ok v st =>
        cases v with
        | im d => cases d <;> rfl
        | _ => rfl
      | ex x st => rfl
      | no => rfl
/-! ### texts of parts -/
def fmtO : D → Option Str
  | .str y => if y.length ≤ sizeLine then some y else none
  | .int i => if i.natAbs.log2 < 1920 then some (toString i) else none
  | _ => none
@[simp] theorem wp_fmt {R : Str → S → Prop} : Wp (evFmt m) s R X = Wp m s (fun v s1 => OW (rd v s1) fun p => OW (fmtO p) fun y => R y s1) X := by
  unfold evFmt
  refine (wp_bind _ _ _).trans (congrArg (fun z => Wp m s z X) (funext fun v => funext fun s1 => ?_))
  unfold Wp fmtO
  try dsimp only
  cases rd v s1 with
  | none => rfl
  | some p =>
    cases p with
    | str y => dsimp only; by_cases h : y.length ≤ sizeLine <;> simp [h]
    | int i => dsimp only; by_cases h : i.natAbs.log2 < 1920 <;> simp [h]
    | _ => rfl
@[simp] theorem wp_const {R : Str → S → Prop} : Wp (evConst m) s R X = Wp m s (fun v s1 => OW (rd v s1) fun p => OW (stV (.im p)) fun y => R y s1) X := by
  unfold evConst
  refine (wp_bind _ _ _).trans (congrArg (fun z => Wp m s z X) (funext fun v => funext fun s1 => ?_))
  unfold Wp
  try dsimp only
  cases rd v s1 with
  | none => rfl
  | some p => cases p <;> rfl
@[simp] theorem wp_js0 (acc : Str) {R : Str → S → Prop} : Wp (evJs [] acc) s R X = R acc s := rfl
@[simp] theorem wp_js (r : M Str) (ms : List (M Str)) (acc : Str) {R : Str → S → Prop} : Wp (evJs (r :: ms) acc) s R X = Wp r s (fun y s1 => (acc ++ y).length ≤ sizeLine ∧ Wp (evJs ms (acc ++ y)) s1 R X) X := by
  show Wp (r >>= fun y s => if (acc ++ y).length ≤ sizeLine then evJs ms (acc ++ y) s else .no) s R X = _
  refine (wp_bind _ _ _).trans (congrArg (fun z => Wp r s z X) (funext fun y => funext fun s1 => ?_))
  unfold Wp
  try dsimp only
  by_cases h : (acc ++ y).length ≤ sizeLine <;> simp [h]
@[simp] theorem wp_joined (ms : List (M Str)) : Wp (evJoined ms) s Q X = Wp (evJs ms Str.empty) s (fun z s1 => Q (.im (.str z)) s1) X := by
  unfold evJoined
  exact wp_bind _ _ _
def ix1 (zs : List Str) : List D → Option Nat
  | [.str z] => ixOf z zs
  | _ => none
@[simp] theorem wp_indexG (zs : List Str) (r : M (List D)) : Wp (evIndexG zs r) s Q X = Wp r s (fun ds s1 => OW (ix1 zs ds) fun j => Q (.im (.int j)) s1) X := by
  unfold evIndexG
  refine (wp_bind _ _ _).trans (congrArg (fun z => Wp r s z X) (funext fun ds => funext fun s1 => ?_))
  rcases ds with _ | ⟨d, _ | ⟨e, l⟩⟩
  · rfl
  · cases d with
    | str z =>
      unfold Wp ix1
      dsimp only
      cases h : ixOf z zs <;> simp [h]
    | _ => rfl
  · cases d <;> rfl
end
end VI
end
section
set_option Elab.async false
set_option linter.all false
set_option maxRecDepth 100000
set_option maxHeartbeats 1000000
/-! V42: plain lemmas that laws share. -/
namespace VI
open PySem L2

/-! ### written texts -/
theorem ofS_cps (s : String) : (Str.ofString s).cps.toList = s.toList.map Char.toNat := by rw [Str.ofString_eq_toList]
@[simp] theorem ofS_inj (a b : String) : (Str.ofString a = Str.ofString b) = (a = b) := by
  refine propext ⟨fun h => ?_, fun h => by rw [h]⟩
  have e := congrArg (fun z : Str => z.cps.toList) h
  simp only [ofS_cps] at e
  have e2 : a.toList = b.toList := (List.map_inj_right fun x y h => Char.toNat_inj.mp h).mp e
  exact String.toList_inj.mp e2
@[simp] theorem ofS_beq (a b : String) : (Str.ofString a == Str.ofString b) = decide (a = b) := by
  rw [Bool.eq_iff_iff]
  simp
theorem ofS_len (s : String) : (Str.ofString s).length = s.length := by
  show (Str.ofString s).cps.size = _
  rw [← Array.length_toList, ofS_cps, List.length_map]
  exact String.length_toList
def ch (c : Nat) : Str := ⟨#[c]⟩
/-! ### equality, membership -/
theorem str_eq (x y : Str) : fEq (.str x) (.str y) = some (.im (.bl (decide (x = y)))) := by
  unfold fEq
  simp [bas, eqb]
  rfl
theorem str_ne (x y : Str) : fNe (.str x) (.str y) = some (.im (.bl (!decide (x = y)))) := by
  unfold fNe
  simp [bas, eqb]
  rfl
theorem int_eq (i j : Int) : fEq (.int i) (.int j) = some (.im (.bl (decide (i = j)))) := by
  unfold fEq
  simp [bas, eqb]
  rfl
theorem int_ne (i j : Int) : fNe (.int i) (.int j) = some (.im (.bl (!decide (i = j)))) := by
  unfold fNe
  simp [bas, eqb]
  rfl
theorem bl_eq (a b : Bool) : fEq (.bl a) (.bl b) = some (.im (.bl (a == b))) := by
  unfold fEq
  simp [bas, eqb]
theorem bl_ne (a b : Bool) : fNe (.bl a) (.bl b) = some (.im (.bl (!(a == b)))) := by
  unfold fNe
  simp [bas, eqb]
theorem is_non (p : D) : fIs p .non = some (.im (.bl (VI.isNon p))) := rfl
theorem isnt_non (p : D) : fIsnt p .non = some (.im (.bl (!VI.isNon p))) := rfl
theorem strs_bas (zs : List Str) : (zs.map D.str).all (bas 8) = true := by simp [bas]
theorem strs_inL (x : Str) (zs : List Str) : inL (.str x) (zs.map D.str) = decide (x ∈ zs) := by
  rw [Bool.eq_iff_iff]
  simp [inL, eqb, List.any_eq_true]
theorem in_strs (x : Str) (zs : List Str) : fIn (.str x) (.lst (zs.map .str)) = some (.im (.bl (decide (x ∈ zs)))) := by
  unfold fIn inD
  simp only [strs_bas, strs_inL, bas, Bool.true_and, if_true]
  rfl
theorem in_strsT (x : Str) (zs : List Str) : fIn (.str x) (.tup (zs.map .str)) = some (.im (.bl (decide (x ∈ zs)))) := by
  unfold fIn inD
  simp only [strs_bas, strs_inL, bas, Bool.true_and, if_true]
  rfl
theorem in_strsZ (x : Str) (zs : List Str) : fIn (.str x) (.tz (zs.map .str)) = some (.im (.bl (decide (x ∈ zs)))) := by
  unfold fIn inD
  simp only [strs_bas, strs_inL, bas, Bool.true_and, if_true]
  rfl
theorem notin_strs (x : Str) (zs : List Str) : fNotIn (.str x) (.lst (zs.map .str)) = some (.im (.bl (!decide (x ∈ zs)))) := by
  unfold fNotIn inD
  simp only [strs_bas, strs_inL, bas, Bool.true_and, if_true]
  rfl
theorem notin_strsZ (x : Str) (zs : List Str) : fNotIn (.str x) (.tz (zs.map .str)) = some (.im (.bl (!decide (x ∈ zs)))) := by
  unfold fNotIn inD
  simp only [strs_bas, strs_inL, bas, Bool.true_and, if_true]
  rfl
theorem in_sign (c : Nat) (z : Str) : fIn (.str ⟨#[c]⟩) (.str z) = some (.im (.bl (decide (c ∈ z.cps.toList)))) := by
  show some (Va.im (.bl (subS ⟨#[c]⟩ z))) = _
  unfold subS
  rw [PySem.StrLaws.found_one]
theorem str_isi (z : Str) : fIsi [.str z, .ty "str"] = some (.im (.bl true)) := by simp [fIsi, tyN, isB]
theorem bl_isi (b : Bool) : fIsi [.bl b, .ty "bool"] = some (.im (.bl true)) := by simp [fIsi, tyN, isB]
theorem str_isb (z : Str) : fIsi [.str z, .ty "bool"] = some (.im (.bl false)) := by simp [fIsi, tyN, isB]
theorem non_isb : fIsi [.non, .ty "bool"] = some (.im (.bl false)) := by simp [fIsi, tyN, isB]
/-! ### flat lists -/
def flt : D → Bool
  | .non => true
  | .bl _ => true
  | .str _ => true
  | _ => false
theorem eqb_flt (n : Nat) : ∀ p q : D, flt p = true → flt q = true → (eqb (n + 1) p q = true ↔ p = q) := fun p q hp hq => by
  cases p <;> cases hp <;> cases q <;> cases hq <;> simp [eqb]
theorem bas_flt (n : Nat) (p : D) (h : flt p = true) : bas (n + 1) p = true := by cases p <;> cases h <;> rfl
theorem eqb_fls (n : Nat) : ∀ xs ys : List D, xs.all flt = true → ys.all flt = true → ((xs.length == ys.length && (xs.zip ys).all fun p => eqb (n + 1) p.1 p.2) = true ↔ xs = ys)
  | [], [], _, _ => by simp
  | [], y :: ys, _, _ => by simp
  | x :: xs, [], _, _ => by simp
  | x :: xs, y :: ys, hx, hy => by
    simp only [List.all_cons, Bool.and_eq_true] at hx hy
    have ih := eqb_fls n xs ys hx.2 hy.2
    have e := eqb_flt n x y hx.1 hy.1
    simp only [List.length_cons, List.zip_cons_cons, List.all_cons, Bool.and_eq_true, List.cons.injEq, beq_iff_eq, Nat.add_right_cancel_iff] at ih ⊢
    rw [← ih, ← e]
    exact ⟨fun z => ⟨z.2.1, z.1, z.2.2⟩, fun z => ⟨z.2.1, z.1, z.2.2⟩⟩
theorem fls_bas (xs : List D) (h : xs.all flt = true) : bas 8 (.lst xs) = true := by
  show xs.all (bas 7) = true
  exact List.all_eq_true.mpr fun x hx => bas_flt 6 x (List.all_eq_true.mp h x hx)
open Classical in
theorem fls_eq {xs ys : List D} (hx : xs.all flt = true) (hy : ys.all flt = true) : fEq (.lst xs) (.lst ys) = some (.im (.bl (decide (xs = ys)))) := by
  unfold fEq
  rw [fls_bas xs hx, fls_bas ys hy]
  have e : eqb 8 (.lst xs) (.lst ys) = decide (xs = ys) := by
    rw [Bool.eq_iff_iff, decide_eq_true_iff]
    exact eqb_fls 6 xs ys hx hy
  simp [e]
theorem strs_flt (zs : List Str) : (zs.map D.str).all flt = true := by simp [flt]
/-! ### texts -/
theorem len_app (x y : Str) : (x ++ y).length = x.length + y.length := by
  show (Str.append x y).length = _
  simp [Str.append, Str.length]
theorem join_len (a : Str) : ∀ zs : List Str, (Str.join a zs).length ≤ (zs.map (·.length)).sum + zs.length * a.length
  | [] => by simp [Str.join, Str.empty, Str.length]
  | [z] => by simp [Str.join]
  | z :: w :: zs => by
    have ih := join_len a (w :: zs)
    have e : Str.join a (z :: w :: zs) = z ++ a ++ Str.join a (w :: zs) := rfl
    rw [e, len_app, len_app]
    simp only [List.map_cons, List.sum_cons, List.length_cons, Nat.add_mul] at ih ⊢
    omega
theorem strsOf_map : ∀ zs : List Str, strsOf (zs.map .str) = some zs
  | [] => rfl
  | z :: zs => by
    show (strsOf (zs.map .str)).map (fun r => z :: r) = _
    rw [strsOf_map zs]
    rfl
theorem fJoin_ok {a : Str} {zs : List Str} (h : (zs.map (·.length)).sum + zs.length * a.length ≤ 16777216) : fJoin a (.lst (zs.map .str)) = some (.im (.str (Txt.join a zs))) := by
  unfold fJoin
  simp only [seqOf, strsOf_map]
  rw [if_pos h]
theorem sum_le {n : Nat} : ∀ zs : List Str, (∀ z ∈ zs, z.length ≤ n) → (zs.map (·.length)).sum ≤ n * zs.length
  | [], _ => by simp
  | z :: zs, h => by
    have h1 := h z (List.mem_cons_self ..)
    have h2 := sum_le zs fun w hw => h w (List.mem_cons_of_mem _ hw)
    simp only [List.map_cons, List.sum_cons, List.length_cons, Nat.mul_add]
    omega
theorem cutS_len (z : Str) (lo hi : Option Int) : (cutS z lo hi).length ≤ z.length := by
  unfold cutS
  simp [Str.length]
  omega
theorem cutS_mem {z : Str} {lo hi : Option Int} {c : Nat} (h : c ∈ (cutS z lo hi).cps.toList) : c ∈ z.cps.toList := by
  unfold cutS at h
  simp only at h
  exact List.mem_of_mem_drop (List.mem_of_mem_take h)
theorem app_cps (x y : Str) : (x ++ y).cps.toList = x.cps.toList ++ y.cps.toList := by
  show (Str.append x y).cps.toList = _
  simp [Str.append]
/-! ### walks -/
theorem rng_get {n i : Nat} {d : D} (h : (rngD 0 n)[i]? = some d) : d = .int (i : Int) ∧ i < n := by
  have hi : i < n := by simpa [rngD] using (List.getElem?_eq_some_iff.mp h).1
  simp only [rngD, List.getElem?_map, List.getElem?_range hi, Option.map_some, Option.some.injEq] at h
  refine ⟨?_, hi⟩
  rw [← h]
  simp
/-! ### boxes -/
def BxO (N : Int) (ob : Ob) : Prop := ∃ a y n, ob = .lst [.int a, .int y, .int n] ∧ 0 ≤ y ∧ y < 2147483648 ∧ 0 ≤ n ∧ n ≤ N
theorem BxO.mono {N M : Int} {ob : Ob} (h : BxO N ob) (hl : N ≤ M) : BxO M ob := by
  obtain ⟨a, y, n, e, h1, h2, h3, h4⟩ := h
  exact ⟨a, y, n, e, h1, h2, h3, by omega⟩
/-! ### repr -/
theorem textFrom_le : ∀ (ts : List Str) (k : Nat) (acc : Str), (textFrom k acc ts).length ≤ acc.length + piled ts
  | [], k, acc => by simp [textFrom, piled]
  | t :: ts, k, acc => by
    have ih := textFrom_le ts (k + 1) (acc ++ Str.ofString (if k > 0 then ", " else "") ++ t)
    rw [len_app, len_app, ofS_len] at ih
    have e : ((if k > 0 then ", " else "" : String)).length ≤ 2 := by split <;> decide
    rw [piled_cons]
    have e2 : textFrom k acc (t :: ts) = textFrom (k + 1) (acc ++ Str.ofString (if k > 0 then ", " else "") ++ t) ts := rfl
    rw [e2]
    omega
theorem listText_le (ts : List Str) : (listText ts).length ≤ piled ts + 2 := by
  have h := textFrom_le ts 0 (Str.ofString "[")
  have e : (listText ts) = textFrom 0 (Str.ofString "[") ts ++ Str.ofString "]" := rfl
  rw [ofS_len] at h
  rw [e, len_app, ofS_len]
  have e1 : ("[" : String).length = 1 := by decide
  have e2 : ("]" : String).length = 1 := by decide
  omega
/-- a flat datum with short texts -/
def sht (n : Nat) : D → Prop
  | .non => True
  | .bl _ => True
  | .str x => x.length ≤ n ∧ ∀ c ∈ x.cps.toList, c < 16 ^ 8
  | _ => False
theorem sht_py {n : Nat} : ∀ {xs : List D}, (∀ x ∈ xs, sht n x) → ∃ ps, pyDs xs = some ps ∧ PyData.showableAll ps = true ∧ PyData.hasDictAll ps = false ∧ PyData.depthAll ps = 0 ∧ piled (PyData.shownAll ps) ≤ (10 * n + 9) * xs.length
  | [], _ => ⟨[], by simp [pyDs], by simp [PyData.showableAll], by simp [PyData.hasDictAll], by simp [PyData.depthAll], by simp [PyData.shownAll, piled]⟩
  | x :: xs, h => by
    obtain ⟨ps, e1, e2, e3, e4, e5⟩ := sht_py (xs := xs) fun y hy => h y (List.mem_cons_of_mem _ hy)
    have hx := h x (List.mem_cons_self ..)
    have mul : (10 * n + 9) * (x :: xs).length = (10 * n + 9) * xs.length + (10 * n + 9) := by rw [List.length_cons, Nat.mul_add, Nat.mul_one]
    cases x with
    | non =>
      refine ⟨.none :: ps, by simp [pyDs, pyD, e1], by simp [PyData.showableAll, PyData.showable, e2], by simp [PyData.hasDictAll, PyData.hasDict, e3], by simp [PyData.depthAll, PyData.depth, e4], ?_⟩
      have q : (PyData.shown .none).length = 4 := by simp only [PyData.shown]; rw [ofS_len]; decide
      simp only [PyData.shownAll, piled_cons, mul, q]
      omega
    | bl b =>
      refine ⟨.bool b :: ps, by simp [pyDs, pyD, e1], by simp [PyData.showableAll, PyData.showable, e2], by simp [PyData.hasDictAll, PyData.hasDict, e3], by simp [PyData.depthAll, PyData.depth, e4], ?_⟩
      have q : (PyData.shown (.bool b)).length ≤ 5 := by simp only [PyData.shown]; cases b <;> (simp only [if_true, if_false, Bool.false_eq_true]; rw [ofS_len]; decide)
      simp only [PyData.shownAll, piled_cons, mul]
      omega
    | str z =>
      refine ⟨.str z :: ps, by simp [pyDs, pyD, e1], by simp [PyData.showableAll, PyData.showable, e2], by simp [PyData.hasDictAll, PyData.hasDict, e3], by simp [PyData.depthAll, PyData.depth, e4], ?_⟩
      have q := StrLaws.reprText_len z hx.2
      have hn : z.length ≤ n := hx.1
      simp only [PyData.shownAll, piled_cons, mul, PyData.shown]
      omega
    | _ => exact hx.elim
theorem repr_ok {n : Nat} {xs : List D} (h : ∀ x ∈ xs, sht n x) (hn : (10 * n + 9) * xs.length + 2 ≤ 16777216) : ∃ z : Str, fRepr [.lst xs] = some (.im (.str z)) := by
  obtain ⟨ps, e1, e2, e3, e4, e5⟩ := sht_py h
  have hp : pyD (.lst xs) = some (.list ps) := by unfold pyD; rw [e1]; rfl
  have hl := listText_le (PyData.shownAll ps)
  have ok : reprOk (.list ps) = true := by
    unfold reprOk
    simp only [PyData.showable, PyData.hasDict, PyData.depth, PyData.shown, e2, e3, e4, Bool.not_false, Bool.true_and, Bool.and_eq_true, decide_eq_true_eq]
    refine ⟨by decide, ?_⟩
    refine decide_eq_true ?_
    rw [sizeLine_eq]
    omega
  refine ⟨(PyData.list ps).shown, ?_⟩
  show (match pyD (.lst xs) with
    | some d => if reprOk d = true then some (Va.im (.str d.shown)) else none
    | none => none) = _
  rw [hp]
  simp only [ok, if_true]
end VI
end
section
set_option Elab.async false
set_option linter.all false
set_option maxRecDepth 100000
set_option maxHeartbeats 4000000
/-! V43: own exceptions of any built-in base, whose __init__ says super().__init__(text), then self.f = p. -/
namespace VI
open PySem PySem.Spec PyProof.Rows L2 NdefX

/-- a built-in base -/
structure XB (B newId initId : String) (bm : List Value) : Prop where
  base : ExcBaseFacts B newId initId bm
  kxs : PySem.W.KxsFacts B initId
  store : StoreFacts B bm "object.__setattr__" "object"
theorem xb_VE : XB "ValueError" "ValueError.__new__" "ValueError.__init__" [.type "ValueError", .type "Exception", .type "BaseException", .type "object"] := ⟨F.excBase_ValueError, PySem.W.kxs_ValueError, F.store_ValueError⟩
theorem xb_LE : XB "LookupError" "LookupError.__new__" "LookupError.__init__" [.type "LookupError", .type "Exception", .type "BaseException", .type "object"] := ⟨F.excBase_LookupError, PySem.W.kxs_LookupError, F.store_LookupError⟩
/-- what the written part says of an own exception class -/
structure XC (K : PySem.W.Frag) (C : Addr) (B newId initId : String) (bm : List Value) : Prop where
  xb : XB B newId initId bm
  obj : PySem.W.excInitIn K C bm newId = true
  over : PySem.W.excOver K C bm = true
  sa : PySem.W.findIn K (.ref C) "__setattr__" = some (some (.builtin "object.__setattr__"))
  sub : PySem.W.subIn K (.ref C) (.type B) = some true
  exC : PySem.W.subIn K (.ref C) (.type "BaseException") = some true
  tyC : PySem.W.typeIn K (.ref C) = some (.type "type")
  hd : PySem.W.hasDictIn K C = true
  kC : PySem.W.keepIn K (.ref C) = true
abbrev xob (C t : Addr) (d : Option Addr) : Obj := { cls := .ref C, dict := d, data := .fields #[.ref t, .none, .none, .none, .bool false, .none] }
section
variable {X : Cx} {pins : List (Addr × Obj)} {σ : L2.St} {H : Hp} {s : Shared} {a C dx : Addr} {f : Str} {y : V} {u : Value} {fs : List (Str × V)} {A : Around} {E : Value → Shared → Prop} {B newId initId : String} {bm : List Value}
theorem exo_inst {d : Option Addr} (I : Inv X pins σ H s) (e : H a = some (exo a C d)) : ∃ t, s.heap.get? a = some (xob C t d) := exo_at I.hok e
/-- self.f = y, the first field -/
theorem xst_new {Q : Unit → Shared → Prop} (T : XC X.K C B newId initId bm) (I : Inv X pins σ H s) (e : H a = some (exo a C none)) (hno : PySem.W.takerIn X.K C f = some none) (ry : RelV y u)
    (h : ∀ dx s', H dx = none → dx ≠ a → Inv X pins σ (upd (upd H dx (exd dx [(f, y)])) a (exo a C (some dx))) s' → Q () s') : wpAny (model X.prog X.w) A (setAttr (.ref a) f u) Q E s := by
  obtain ⟨t1, ho⟩ := exo_inst I e
  obtain ⟨cd, hcd, hdd⟩ := PySem.W.any_some T.hd
  have lcl := PySem.W.looks_clsIn (M := model X.prog X.w) I.kIn hcd
  obtain ⟨hp, g, dr, tk, os⟩ := s
  have hin : PySem.W.InstAt hp a (xob C t1 none) C none := ⟨ho, rfl, rfl, trivial⟩
  refine PySem.W.set_plain I.kIn hin T.sa ?_
  refine PySem.W.osa_openX T.xb.store I.kIn hin T.over hno fun b => ?_
  refine wpAny_bind (wpAny_pure (wpAny_bind (PySem.W.instanceDict_exc (t := t1) (c2 := .none) ho lcl hdd ?_)))
  have nax : a ≠ hp.objs.size := Nat.ne_of_lt (Heap.lt_size ho)
  refine HandSPX.store_in_new (dx := hp.objs.size) ⟨_, #[], _, (Heap.get?_update_ne _ _ _ _ nax.symm).trans (Heap.get?_push_at rfl rfl), rfl, fun e he => absurd he (by simp), fun _ => rfl⟩ fun h' tk' hn' hs => ?_
  have ho1 : (hp.push (PySem.W.dictOf [] 0)).get? a = some (xob C t1 none) := Heap.get?_push_of_some _ ho
  have hnd : H hp.objs.size = none := I.hok.fresh (Nat.le_refl _)
  have k : ∀ b o, b ≠ a → hp.get? b = some o → h'.get? b = some o := fun b o hb q => (hs.2 b (Nat.ne_of_lt (Heap.lt_size q))).trans ((Heap.get?_update_ne _ _ _ _ hb).trans (Heap.get?_push_of_some _ q))
  have hx : h'.get? a = some (xob C t1 (some hp.objs.size)) := (hs.2 a nax).trans (Heap.get?_update_self _ ho1 rfl)
  have nd : ∀ {b : Addr} {o : Obj}, hp.get? b = some o → b ≠ hp.objs.size := fun {b o} q => Nat.ne_of_lt (Heap.lt_size q)
  have na : ∀ {b : Addr}, H b = none → b ≠ a := fun {b} n z => by rw [z, e] at n; cases n
  have U1 : Un X.fs [] H (upd (upd H hp.objs.size (exd hp.objs.size [(f, y)])) a (exo a C (some hp.objs.size))) hp h' := {
    keep := fun b o q n _ _ => k b o (na n) q
    slot := fun b o q n _ _ => ⟨o.slots, k b o (na n) q⟩
    free := fun b o q n _ => by rw [upd_ne (na n), upd_ne (nd q)]; exact n
    there := fun b o q _ => by
      by_cases hb : b = a
      · exact ⟨xob C t1 (some hp.objs.size), by rw [hb]; exact hx⟩
      · exact ⟨o, k b o hb q⟩
    tups := fun b xs q => by rw [upd_ne (at_ne e q exo_tup), upd_ne (ne_of_none q hnd)]; exact q
    frzs := fun b o v q => by rw [upd_ne (at_ne e q exo_frz), upd_ne (ne_of_none q hnd)]; exact q
    tbls := fun b ps q => ⟨#[], by rw [upd_ne (at_ne e q exo_tbl), upd_ne (ne_of_none q hnd), q]; simp⟩ }
  refine h hp.objs.size _ hnd nax.symm (I.un (t' := tk') U1 fun b o q => ?_)
  by_cases hb : b = a
  · subst hb; rw [upd_same] at q; cases q; exact exo_ok hx
  · rw [upd_ne hb] at q
    by_cases hd : b = hp.objs.size
    · subst hd; rw [upd_same] at q; cases q; exact exd_ok hn' (relO_put (fs := []) ry fun g => True.intro)
    · rw [upd_ne hd] at q
      refine (I.hok b o q).stay (fun c v hc z => k c v ?_ z) (fun c hc => ?_) fun c xs hc => ?_
      · rcases hc with hc | hc
        · rw [hc]; exact hb
        · exact at_ne e hc exo_own
      · rw [upd_ne (at_ne e hc exo_own), upd_ne (ne_of_none hc hnd)]; exact hc
      · rw [upd_ne (at_ne e hc exo_tup), upd_ne (ne_of_none hc hnd)]; exact hc
/-- a further field -/
theorem xst_old {Q : Unit → Shared → Prop} (T : XC X.K C B newId initId bm) (I : Inv X pins σ H s) (e : H a = some (exo a C (some dx))) (ed : H dx = some (exd dx fs)) (hl : fs.length ≤ 900) (hno : PySem.W.takerIn X.K C f = some none) (ry : RelV y u)
    (h : ∀ s', Inv X pins σ (upd H dx (exd dx ((f, y) :: fs))) s' → Q () s') : wpAny (model X.prog X.w) A (setAttr (.ref a) f u) Q E s := by
  obtain ⟨t1, ho⟩ := exo_inst I e
  obtain ⟨cd, hcd, hdd⟩ := PySem.W.any_some T.hd
  have lcl := PySem.W.looks_clsIn (M := model X.prog X.w) I.kIn hcd
  obtain ⟨mA, hns, rel⟩ := exd_at I.hok ed
  have hw := within_of rel
  obtain ⟨hp, g, dr, tk, os⟩ := s
  obtain ⟨oD, _, _, hoD, _, _⟩ := hns.count hw
  have hin : PySem.W.InstAt hp a (xob C t1 (some dx)) C (some oD) := ⟨ho, rfl, rfl, hoD⟩
  refine PySem.W.set_plain I.kIn hin T.sa ?_
  refine PySem.W.osa_openX T.xb.store I.kIn hin T.over hno fun b => ?_
  refine wpAny_bind (wpAny_pure (wpAny_bind (wpAny_bind (wpAny_loadPart ho (wpAny_bind (lcl.at ?_))))))
  rw [hdd]
  refine wpAny_pure (a := some dx) ?_
  refine OEX.store_in_old hns hw (by rw [List.length_map]; omega) fun h' tk' hn' hs => ?_
  have hd : ∃ o, h'.get? dx = some o := by
    obtain ⟨o, _, _, e', _⟩ := hn'
    exact ⟨o, e'⟩
  exact h _ (I.write (t' := tk') (x := dx) (e := dx) (o := exd dx ((f, y) :: fs)) (by rw [ed]; exact True.intro) (.inl rfl) (fun b o hb q => (hs.2 b hb).trans q) hd (exd_ok hn' (relO_put ry rel)))
/-- the bound __init__ of the base, called -/
theorem mw_call {q : Addr} {us : List Value} {Q : Value → Shared → Prop} (T : XC X.K C B newId initId bm) (I : Inv X ((q, PySem.W.kxs_mw initId a) :: pins) σ H s) (e : H a = some (exo a C none)) (hl : us.length ≤ sizeLine) (h : ∀ s', Inv X ((q, PySem.W.kxs_mw initId a) :: pins) σ H s' → Q .none s') :
    wpAny (model X.prog X.w) A (call (.ref q) us) Q E s := by
  obtain ⟨nm, N', qn, bs, bm2, hdct, sn, sub, ab, col, dd, k0, k1, k2, k3, k5, hC, hT⟩ := PySem.W.excInit_of I.kIn T.obj
  obtain ⟨t1, ho⟩ := exo_inst I e
  have hu : s.heap.get? q = some (PySem.W.kxs_mw initId a) := ClX.pin_at I
  have fin : ∀ h' t2, (∀ b o, b ≠ a → s.heap.get? b = some o → h'.get? b = some o) → h'.get? a = some (xob C t2 none) → Q .none { s with heap := h' } := fun h' t2 k hx => by
    have J := I.write (t' := s.toks) (x := a) (e := a) (o := exo a C none) (by rw [e]; exact True.intro) (.inl rfl) k ⟨_, hx⟩ (exo_ok hx)
    have eu : upd H a (exo a C none) = H := by
      funext b
      by_cases hb : b = a
      · rw [hb, upd_same, e]
      · rw [upd_ne hb]
    rw [eu] at J
    exact h _ J
  obtain ⟨hp, g, dr, tk, os⟩ := s
  refine wpAny_call (codeAny_of_tree ?_)
  show wpAny _ A.in1 (callAny (.ref q) ⟨us, []⟩) _ _ _
  simp only [callAny]
  refine wpAny_bind (wpAny_load hu ?_)
  simp only [PySem.W.kxs_mw, show (Value.type "method-wrapper" == Value.type "method" || Value.type "method-wrapper" == Value.type "builtin_function_or_method" || Value.type "method-wrapper" == Value.type "method-wrapper") = true by decide, if_true]
  refine PySem.W.KFB.if_so (by decide) ?_
  refine wpAny_bind (PySem.W.check_bound_init T.xb.base.toExcCallFacts hC ho rfl ?_)
  refine wpAny_bind (wpAny_pure (wpAny_pure ?_))
  refine ⟨plainId_quiet T.xb.base.init.plain _, codeAny_builtin T.xb.base.initEntry ?_⟩
  exact PySem.W.exc_init_tree (cls := .ref C) (t0 := t1) (dv := none) (c2 := .none) (c3 := .none) (b4 := .bool false) ho hl fun h' k hx _ => fin h' _ k hx
/-- super() alone, of an exception -/
theorem at_superX {D : Addr} {body : List Stmt} {x0 attr : Str} {p0 p1 : Pos} {whole : Sem Value} {Q : Value → Shared → Prop} (S : SupX X x0 D) (I : Inv X pins σ H s) (h0 : σ[0]? = some (some (.ref a))) (hN : X.N[0]? = some x0) (ha : H a = some (exo a C none)) (hm : PySem.W.mroIn X.K C (.ref D) = some true)
    (hmg : X.mg "super" = none) (hks : X.env.kindOf "super" = some .globalImplicit) (hkc : X.env.kindOf "__class__" = some .free) (hka : X.env.kindOf x0 = some .local) (hat : (attr == ("__class__" : Str)) = false)
    (h : ∀ so s1, Inv X ((so, PySem.W.ks_superObj D a C) :: pins) σ H s1 → Q (.ref so) s1) :
    _root_.PySem.wpAt (model X.prog X.w) X.A (.func body X.env) (attributeBase (.Call (.Name "super" p0) [] [] p1) attr X.env whole) Q E s := by
  obtain ⟨fa, of, fd, ar, e1, lf, e2, e3, rfl⟩ := S.func
  obtain ⟨cd, oc, vs, file, t, c1, lc, c2, c3, c4⟩ := S.code
  obtain ⟨cc, o, b1, lo, b2⟩ := S.cell
  obtain ⟨cD, hD⟩ := S.cls
  have KX := I.kIn
  obtain ⟨t1, ho⟩ := exo_inst I ha
  obtain ⟨oD, hD1, hD2⟩ : ∃ oD, s.heap.get? D = some oD ∧ oD.data = .cls cD := by
    unfold PySem.W.clsIn at hD
    split at hD
    · rename_i z
      cases hD
      exact ⟨_, KX _ _ z, rfl⟩
    · cases hD
  refine ks_wpAt_super_base hks hkc hat e1 (KX _ _ lf) e2 e3 c1 (KX _ _ lc) c2 c3 c4 S.top ?_
  obtain ⟨mb, g1, g2⟩ := I.mod.blt
  refine PySem.W.ks_loadName_global I.ok.kind hks (Calls.loadGlobal_builtin (by rw [I.ok.glob]; exact I.mod.glob.keeps I.bk) hmg (by rw [I.ok.blt]; exact g1.keeps I.bk) ((g2 _ (by decide)).trans (show bootBuiltins "super" = some (.type "super") by kernel_rfl)) ⟨rfl, ?_⟩)
  refine wpAny_loadName_free I.ok.kind hkc b1 ⟨_, KX _ _ lo, b2⟩ ?_
  obtain ⟨m, ns, lk⟩ := I.loc
  obtain ⟨u, ru, ll⟩ := lk 0 ar.arg (.ref a) hN h0 (.inl hka)
  obtain rfl : u = Value.ref a := ru
  have hm2 : m ar.arg = some (.ref a) := by
    rcases ll with ⟨_, z⟩ | ⟨z, _⟩
    · exact z
    · rw [hka] at z; rcases z with z | z <;> cases z
  refine wpAny_loadName_local I.ok.kind hka ns hm2 ?_
  refine ks_wpAny_isType_cls hD1 hD2 ⟨rfl, ?_⟩
  obtain ⟨hh, gg, dr, tt, oo⟩ := s
  refine ks_wpAny_call_super hD1 hD2 ho rfl (fun z e => nomatch e) (PySem.W.looks_mroIn KX hm) (fun h' e k => ?_)
  exact h _ _ (ClX.pin_new I k (Nat.le_refl _) e (fun v z => nomatch z))
/-- what the class of self's mro says behind D -/
structure XSup (K : PySem.W.Frag) (C D : Addr) (i : String) : Prop where
  sub : PySem.W.mroIn K C (.ref D) = some true
  at_ : PySem.W.ks_superIn K C D "__init__" = some (some (.builtin i))
theorem get_superX {D : Addr} {so : Addr} {pl : Sem Bool} {Q : Value × List Value → Shared → Prop} (S : PySem.W.nsIn X.K cStatics "thirdparty.any" = some none) (T : XC X.K C B newId initId bm) (I : Inv X ((so, PySem.W.ks_superObj D a C) :: pins) σ H s) (ha : H a = some (exo a C none)) (M : XSup X.K C D initId)
    (h : ∀ q s1, Inv X ((q, PySem.W.kxs_mw initId a) :: (so, PySem.W.ks_superObj D a C) :: pins) σ H s1 → Q (.ref q, []) s1) : wpAny (model X.prog X.w) A (getMethod (.ref so) "__init__" pl) Q E s := by
  have KX := I.kIn
  obtain ⟨t1, ho⟩ := exo_inst I ha
  have hs := ClX.pin_at I
  have hM := M.at_
  have J : PySem.W.InstAt s.heap a (xob C t1 none) C none := ⟨ho, rfl, rfl, trivial⟩
  cases hc : PySem.W.clsIn X.K C with
  | none => unfold PySem.W.ks_superIn at hM; rw [hc] at hM; cases hM
  | some cd =>
    unfold PySem.W.ks_superIn at hM
    rw [hc] at hM
    obtain ⟨hh, gg, dr, tt, oo⟩ := s
    refine PySem.W.kxs_getMethod T.xb.kxs hs (PySem.W.looks_opaque KX S) (l₀ := cd.mro) ?_ rfl KX hM (J.type.andThen (PySem.W.looks_subIn KX T.sub)) (PySem.W.ks_ne KX J hc) (by decide) ?_
    · exact fun A Q E s k q => wpAny_bind ((PySem.W.looks_clsIn KX hc) A _ E s k (wpAny_pure q))
    · exact h _ _ (ClX.pin_new (t' := tt + 1) I (fun _ _ z => Heap.get?_push_of_some _ z) (Nat.le_refl _) (Heap.get?_push_size hh rfl) (fun v z => nomatch z))
end
end VI
end
section
set_option Elab.async false
set_option linter.all false
set_option maxRecDepth 100000
set_option maxHeartbeats 4000000
/-! V44: the inits of own exceptions as defs; own exceptions made. -/
namespace VI
open PySem PySem.Spec PyProof.Rows L2 NdefX

/-- super().__init__(..), self an exception of the class at C -/
def tXSup (C : Addr) (t : TA) : TS := fun D σ H => ∃ a, σ[0]? = some (some (.ref a)) ∧ H a = some (exo a C none) ∧ t σ H fun vs H1 => vs.length ≤ 1000 ∧ H1 a = some (exo a C none) ∧ D.nx σ H1
/-- self.f = e -/
def tXst (K : PySem.W.Frag) (C : Addr) (f : Str) (to te : TE) : TS := fun D σ H => te σ H fun y H1 => to σ H1 fun x H2 => ∃ a : Addr, x = .ref a ∧
  ((H2 a = some (exo a C none) ∧ ∀ dx, H2 dx = none → dx ≠ a → D.nx σ (upd (upd H2 dx (exd dx [(f, y)])) a (exo a C (some dx)))) ∨
    ∃ (dx : Addr) (fs : List (Str × V)), H2 a = some (exo a C (some dx)) ∧ H2 dx = some (exd dx fs) ∧ fs.length ≤ 900 ∧ D.nx σ (upd H2 dx (exd dx ((f, y) :: fs))))
section
variable {X : Cx} {B newId initId : String} {bm : List Value} {C Dc : Addr} {f x0 : Str} {body : List Stmt} {o e : Expr} {es : List Expr} {t : TA} {to te : TE} {p0 p1 apos pos p2 p' : Pos}
theorem cw_mw {A : Around} {s : Shared} {q a : Addr} {Q : Value → Shared → Prop} {Ex : Value → Shared → Prop} (he : starEach (e :: es) X.env = (false, eval e X.env) :: starEach es X.env) (hpl : (backTo pos (starEach es X.env)).any (·.1) = false)
    (h : wpAny (model X.prog X.w) A (spliced (backTo pos (starEach (e :: es) X.env))) (fun vs s1 => PySem.W.KxsAt initId q a s1.heap ∧ wpAny (model X.prog X.w) A (call (.ref q) vs) Q Ex s1) Ex s) :
    wpAny (model X.prog X.w) A (callWith pos (.ref q) [] (backTo pos (starEach (e :: es) X.env)) []) Q Ex s := by
  rw [he] at h ⊢
  refine PySem.W.kxs_callWith (i := initId) (x := a) (by show (false || (backTo pos (starEach es X.env)).any (·.1)) = false; rw [hpl]; rfl) ?_
  exact Calls.evalArgs_plain h
theorem p1_xsup {pl : Sem Bool} (S : SupX X x0 Dc) (T : XC X.K C B newId initId bm) (M : XSup X.K C Dc initId) (ha : PA X (e :: es) t) (hmg : X.mg "super" = none)
    (hN : X.N[0]? = some x0 := by rfl) (hks : X.env.kindOf "super" = some .globalImplicit := by rfl) (hkc : X.env.kindOf "__class__" = some .free := by rfl) (hka : X.env.kindOf x0 = some .local := by rfl)
    (he : starEach (e :: es) X.env = (false, eval e X.env) :: starEach es X.env := by rfl) (hpl : (backTo pos (starEach es X.env)).any (·.1) = false := by rfl)
    (ht : eval (.Call (.Attribute (.Call (.Name "super" p0) [] [] p1) "__init__" apos) (e :: es) [] pos) X.env = (do
      let ov ← attributeBase (.Call (.Name "super" p0) [] [] p1) "__init__" X.env (eval (.Call (.Name "super" p0) [] [] p1) X.env)
      standAt apos.atName
      let (f, first) ← holding [ov] (getMethod ov "__init__" pl)
      callWith pos f first (backTo pos (starEach (e :: es) X.env)) (backToKw pos (keywordEach [] X.env))) := by rfl)
    (hi : interactive X.env = false := by rfl) (hs : swapsWith (.Call (.Attribute (.Call (.Name "super" p0) [] [] p1) "__init__" apos) (e :: es) [] pos) none p2.line X.env = pure false := by rfl) :
    P1At X (.func body X.env) (.Expr (.Call (.Attribute (.Call (.Name "super" p0) [] [] p1) "__init__" apos) (e :: es) [] pos) p2) (tXSup C t) := by
  refine ⟨fun pins s σ H D' I h => ?_⟩
  obtain ⟨a, h0, h1, h⟩ := h
  refine PySem.ks_wpAt_Expr_any (at_meth (pl := pl) (at_superX S I h0 hN h1 M.sub hmg hks hkc hka (by decide) fun so s1 I1 => ?_) ht) hi hs
  refine get_superX S.stat T I1 h1 M fun q s2 I2 => ?_
  show wpAny _ _ (callWith pos (.ref q) [] (backTo pos (starEach (e :: es) X.env)) []) _ _ _
  refine cw_mw (a := a) (initId := initId) he hpl (thn (ha.run pos _ s2 σ H _ I2 h) fun us s3 ⟨vs, H1, I3, r, z1, z2, z3⟩ => ⟨ClX.pin_at I3, mw_call T I3 z2 (by rw [← Paired.length r, sizeLine_eq]; omega) fun s' J => ?_⟩)
  exact ⟨σ, H1, ClX.unpin (ClX.unpin J), z3⟩
theorem ps_xst (T : XC X.K C B newId initId bm) (hno : PySem.W.takerIn X.K C f = some none) (ho : PE X o to) (he : PE X e te) (hs : swapsWith e (some (.Attribute o f p')) pos.line X.env = pure false := by rfl) : PS X (.Assign [.Attribute o f p'] e pos) (tXst X.K C f to te) := by
  refine ⟨fun pins s σ H D I h => ?_⟩
  refine plainObj_wpAny_Assign_Attribute (thn (he.run pins s σ H _ I h) fun v s1 ⟨y, H1, I1, r1, q1⟩ => thn (ho.run pins s1 σ H1 _ I1 q1) fun u s2 ⟨x, H2, I2, r2, a, ex, q⟩ => ?_) hs
  subst ex
  obtain rfl : u = Value.ref a := r2
  rcases q with ⟨ea, q⟩ | ⟨dx, fs, ea, ed, hl, q⟩
  · exact xst_new T I2 ea hno r1 fun dx s' n ne J => ⟨σ, _, J, q dx n ne⟩
  · exact xst_old T I2 ea ed hl hno r1 fun s' J => ⟨σ, _, J, q⟩
end
/-! ### the def -/
section
variable {P : Program} {w : World} {K : PySem.W.Frag} {mg : Str → Option Value} {base : Heap} {x q : Str} {ar : Arguments} {body : List Stmt} {sc : Scope} {cc : Addr} {fd : FuncData} {N ps : List Str}
theorem initX_ok {p : Str × Option Str} {k : Nat} {cn file x0 : Str} {a0 : Arg} {sp : Sp} (F : FunC K x q ar body sc [] [] cc (He.fAd K p) fd) (S : NScope N ps ["__class__"] sc) (hC : ccB K cc (He.ga K cn) = true) (hf : codeB K p file = true) (hP : PrgF P file)
    (hcl : (PySem.W.clsIn K (He.ga K cn)).isSome = true) (hst : PySem.W.nsIn K cStatics "thirdparty.any" = some none) (har : (ar.posonlyargs ++ ar.args).head? = some a0) (ha0 : a0.arg = x0) (len : ∀ vs H Q E, sp vs H Q E → vs.length = ps.length)
    (hb : ∀ (c : Addr) (A : Around) (outer : List Env) (s : Shared) (H : Hp) (E : XK), SupX (ncx (CV P w) P w K mg base N (nfS x q ar body sc cc c) (He.fAd K p) A outer s H E) x0 (He.ga K cn) →
      ∃ t, PAt (ncx (CV P w) P w K mg base N (nfS x q ar body sc cc c) (He.fAd K p) A outer s H E) (.func body (envF (nfS x q ar body sc cc c) (He.fAd K p) s.heap.objs.size)) body t ∧ ∀ vs H Q E, sp vs H Q E → t { nx := fun _ H' => Q .non H', rt := Q } (startF N vs [some (.ref (He.ga K cn))]) H) :
    VI.FnOk P w K mg base (CV P w) (k + 1) (He.fAd K p) fd ps sp := by
  refine funC_ok F S hC len fun c A outer s H vs Q E hcode hr h => ?_
  obtain ⟨o1, lc, dc⟩ := ccB_ok hC
  obtain ⟨cD, hD⟩ := Option.isSome_iff_exists.mp hcl
  have sup : SupX (ncx (CV P w) P w K mg base N (nfS x q ar body sc cc c) (He.fAd K p) A outer s H E) x0 (He.ga K cn) := by
    obtain ⟨oc, od, dV, kV, doc, pm, an, cdv, ct, osl, rfl, lk, hcd, _, _⟩ := F.has
    obtain ⟨o2, vs2, t2, l2, d2, v2⟩ := codeB_ok hf lk rfl hcode
    exact ⟨⟨He.fAd K p, _, _, a0, rfl, lk, rfl, har, ha0⟩, ⟨c, o2, vs2, file, t2, rfl, l2, d2, v2, by rw [show ((ncx (CV P w) P w K mg base N (nfS x q ar body sc cc c) (He.fAd K p) A outer s H E).prog.main.file : Str) = file from hP.file]; exact beq_self_eq_true _⟩, ⟨cc, o1, rfl, lc, dc⟩, hP.top, ⟨cD, hD⟩, hst⟩
  obtain ⟨t, pt, g⟩ := hb c A outer s H E sup
  exact ⟨t, pt, g _ _ _ _ h⟩
end
/-- fields stored one behind another -/
def xst (a C dx : Addr) : List (Str × V) → List (Str × V) → Hp → Hp
  | [], _, H => H
  | (f, y) :: r, fs, H => xst a C dx r ((f, y) :: fs) (upd H dx (exd dx ((f, y) :: fs)))
/-- what an init of the fields f1, fr promises -/
def spX (C : Addr) (f1 : Str) (fr : List Str) : Sp := fun vs H Q _ => ∃ a y1 ys, vs = .ref a :: y1 :: ys ∧ ys.length = fr.length ∧ H a = some (exo a C none) ∧ ∀ dx, H dx = none → dx ≠ a → Q .non (xst a C dx (fr.zip ys) [(f1, y1)] (upd (upd H dx (exd dx [(f1, y1)])) a (exo a C (some dx))))
theorem spX_len {C : Addr} {f1 : Str} {fr : List Str} {vs : List V} {H : Hp} {Q : VK} {E : XK} (h : spX C f1 fr vs H Q E) : vs.length = fr.length + 2 := by
  obtain ⟨a, y1, ys, rfl, h1, _⟩ := h
  simp [h1]
def tX1 (K : PySem.W.Frag) (C : Addr) (z : Str) (f1 : Str) : TS := tSeq (tXSup C (tCons (tC (.str z)) tNil)) (tXst K C f1 (tVar 0) (tVar 1))
def tX2 (K : PySem.W.Frag) (C : Addr) (z : Str) (f1 f2 : Str) : TS := tSeq (tXSup C (tCons (tC (.str z)) tNil)) (tSeq (tXst K C f1 (tVar 0) (tVar 1)) (tXst K C f2 (tVar 0) (tVar 2)))
def tX3 (K : PySem.W.Frag) (C : Addr) (z : Str) (f1 f2 f3 : Str) : TS := tSeq (tXSup C (tCons (tC (.str z)) tNil)) (tSeq (tXst K C f1 (tVar 0) (tVar 1)) (tSeq (tXst K C f2 (tVar 0) (tVar 2)) (tXst K C f3 (tVar 0) (tVar 3))))
section
variable {K : PySem.W.Frag} {C : Addr} {z f1 f2 f3 : Str} {vs : List V} {H : Hp} {Q : VK} {E : XK} {N : List Str} {c : Option V}
theorem x1_spec (h : spX C f1 [] vs H Q E) : tX1 K C z f1 { nx := fun _ H' => Q .non H', rt := Q } (startF N vs [c]) H := by
  obtain ⟨a, y1, ys, rfl, h1, h2, h3⟩ := h
  refine ⟨a, rfl, h2, by simp, h2, y1, rfl, .ref a, rfl, a, rfl, .inl ⟨h2, fun dx n ne => ?_⟩⟩
  have := h3 dx n ne
  simpa [xst] using this
theorem upd_at {H : Hp} {a dx : Addr} {o u : HO} (ne : dx ≠ a) : (upd (upd H dx o) a u) a = some u ∧ (upd (upd H dx o) a u) dx = some o := ⟨upd_same, by rw [upd_ne ne, upd_same]⟩
theorem x2_spec (h : spX C f1 [f2] vs H Q E) : tX2 K C z f1 f2 { nx := fun _ H' => Q .non H', rt := Q } (startF N vs [c]) H := by
  obtain ⟨a, y1, ys, rfl, h1, h2, h3⟩ := h
  obtain ⟨y2, rfl⟩ : ∃ y2, ys = [y2] := by
    match ys, h1 with
    | [b], _ => exact ⟨b, rfl⟩
  refine ⟨a, rfl, h2, by simp, h2, y1, rfl, .ref a, rfl, a, rfl, .inl ⟨h2, fun dx n ne => ?_⟩⟩
  have q := h3 dx n ne
  obtain ⟨e1, e2⟩ := upd_at (H := H) (o := exd dx [(f1, y1)]) (u := exo a C (some dx)) ne
  refine ⟨y2, rfl, .ref a, rfl, a, rfl, .inr ⟨dx, _, e1, e2, by simp, ?_⟩⟩
  simpa [xst] using q
theorem x3_spec (h : spX C f1 [f2, f3] vs H Q E) : tX3 K C z f1 f2 f3 { nx := fun _ H' => Q .non H', rt := Q } (startF N vs [c]) H := by
  obtain ⟨a, y1, ys, rfl, h1, h2, h3⟩ := h
  obtain ⟨y2, y3, rfl⟩ : ∃ y2 y3, ys = [y2, y3] := by
    match ys, h1 with
    | [b, d], _ => exact ⟨b, d, rfl⟩
  refine ⟨a, rfl, h2, by simp, h2, y1, rfl, .ref a, rfl, a, rfl, .inl ⟨h2, fun dx n ne => ?_⟩⟩
  have q := h3 dx n ne
  obtain ⟨e1, e2⟩ := upd_at (H := H) (o := exd dx [(f1, y1)]) (u := exo a C (some dx)) ne
  refine ⟨y2, rfl, .ref a, rfl, a, rfl, .inr ⟨dx, _, e1, e2, by simp, ?_⟩⟩
  have e3 : (upd (upd (upd H dx (exd dx [(f1, y1)])) a (exo a C (some dx))) dx (exd dx [(f2, y2), (f1, y1)])) a = some (exo a C (some dx)) := by rw [upd_ne ne.symm, upd_same]
  refine ⟨y3, rfl, .ref a, rfl, a, rfl, .inr ⟨dx, _, e3, upd_same, by simp, ?_⟩⟩
  simpa [xst] using q
end
/-! ### made -/
section
variable {X : Cx} {B newId initId : String} {bm : List Value} {C fI : Addr} {k : Nat} {fd : FuncData} {ps : List Str} {sp : Sp} {x : Str} {p pos : Pos} {e : Expr} {es : List Expr} {ta : TA}
theorem no_exc {P : Program} {w : World} {outer : List Env} {H : Hp} {s s' : Shared} {u : Value} (h : L2.CX P w outer H s (fun _ _ _ => False) u s') : False := by
  obtain ⟨_, _, _, _, _, _, _, _, _, _, _, _, z⟩ := h
  exact z
theorem pmk_x (T : XC X.K C B newId initId bm) (iC : PySem.W.findIn X.K (.ref C) "__init__" = some (some (.ref fI))) (tI : PySem.W.typeIn X.K (.ref fI) = some (.type "function"))
    (F1 : VI.FnOk X.prog X.w X.K X.mg X.base (CV X.prog X.w) k fI fd ps sp) (hr : VI.Room (k + 1) X.A) (hb : Binds X.K fd ps []) (hg : Gl X x) (hm : X.mg x = some (.ref C)) (ha : PA X (e :: es) ta)
    (hdb : (x == ("__debug__" : Str)) = false := by decide) (he : starEach (e :: es) X.env = (false, eval e X.env) :: starEach es X.env := by rfl) (hpl : (backTo pos (starEach es X.env)).any (·.1) = false := by rfl) :
    PMk X (.Call (.Name x p) (e :: es) [] pos) (tMkO C sp [] ta) := by
  intro pins s σ H Q I h
  refine wpAny_Call_Name_kw (ld_glob I hg hm ?_ hdb)
  refine PySem.W.callWith_K (h₀ := X.base) I.ok.mod.kin T.kC (thn (ha.run pos pins s σ H _ I h) fun us s1 ⟨vs, H1, I1, r1, hz, q1⟩ => ⟨I1.kIn, ?_⟩) he hpl
  show wpAny _ _ (call (.ref C) us) _ _ _
  obtain ⟨nm, N', qn, bs, bm2, hdct, sn, sub, ab, col, dd, k0, k1, k2, k3, k5, hC, hT⟩ := PySem.W.excInit_of I1.kIn T.obj
  obtain ⟨hp, g, dr, tk, os⟩ := s1
  have hsz : hp.objs.size ≤ hp.objs.size + 1 := Nat.le_succ _
  have hn : H1 (hp.objs.size + 1) = none := I1.hok.fresh hsz
  have hq := q1 (hp.objs.size + 1) hn
  have kk : ∀ b o, hp.get? b = some o → ((hp.push (PySem.W.kdv_tup us)).push (HandSPX.excO C hp.objs.size)).get? b = some o := fun b o e => Heap.get?_push_of_some _ (Heap.get?_push_of_some _ e)
  have hget : ((hp.push (PySem.W.kdv_tup us)).push (HandSPX.excO C hp.objs.size)).get? (hp.objs.size + 1) = some (HandSPX.excO C hp.objs.size) := by heap_get
  have I2 : Inv X pins σ (upd H1 (hp.objs.size + 1) (exo (hp.objs.size + 1) C none)) ⟨(hp.push (PySem.W.kdv_tup us)).push (HandSPX.excO C hp.objs.size), g, dr, tk, os⟩ :=
    I1.laid (t' := tk) (a := hp.objs.size + 1) (o := exo (hp.objs.size + 1) C none) (h' := (hp.push (PySem.W.kdv_tup us)).push (HandSPX.excO C hp.objs.size)) kk hsz (exo_ok hget)
  have r2 : Vals (V.ref (hp.objs.size + 1) :: (vs ++ [])) (Value.ref (hp.objs.size + 1) :: (us ++ [])) := .cons rfl (r1.append .nil)
  have hl : (Value.ref (hp.objs.size + 1) :: us ++ []).length = ps.length := by
    have e := r2.length
    rw [F1.len _ _ _ _ hq] at e
    exact e.symm
  have hus : us.length ≤ sizeLine := by rw [← Paired.length r1, sizeLine_eq]; omega
  have hbt := hb ⟨(hp.push (PySem.W.kdv_tup us)).push (HandSPX.excO C hp.objs.size), g, dr, tk, os⟩ (Value.ref (hp.objs.size + 1) :: us) I2.kIn hl
  rw [List.cons_append] at hbt
  refine wpAny_call (PySem.HandSPX.call_own T.xb.base hT hC (PySem.W.looks_findIn I1.kIn iC) (fun self => PySem.W.bind_fn I1.kIn self tI) hus
    (codeAny_mono (F1.run _ X.stack _ _ ⟨Value.ref (hp.objs.size + 1) :: us, []⟩ (Value.ref (hp.objs.size + 1) :: (us ++ [])) _ _ (fun _ _ _ => False) (hr.make C us []) (I2.env0.make C us []) hbt r2 hq) fun r s' hq' => ?_))
  cases r with
  | error er => exact (no_exc hq').elim
  | ok fl =>
    cases fl with
    | ret u =>
      obtain ⟨v, H2, os2, bare2, un2, hok2, rv, ev, d, fs, ea, ed, hd1, q2⟩ := hq'
      subst ev
      obtain ⟨h2, g2, d2, t2, os'⟩ := s'
      exact ⟨rv, mk_end (raises_own T.exC T.tyC) I1 hsz kk un2 hok2 os2 bare2 ea ed hd1 q2⟩
    | next => exact False.elim hq'
    | brk => exact False.elim hq'
    | cont => exact False.elim hq'
end
end VI
end
section
set_option Elab.async false
set_option linter.all false
set_option maxRecDepth 100000
set_option maxHeartbeats 4000000
/-! V45: raise X(..). -/
namespace VI
open PySem PySem.Spec PyProof.Rows L2 NdefX

/-- the fields, as they lie in the dict -/
def xfl {α : Type} (f1 : Str) (fr : List Str) : List α → List (Str × α)
  | y1 :: ys => (fr.zip ys).reverse ++ [(f1, y1)]
  | [] => []
def svRaise (c f1 : Str) (fr : List Str) (m : M (List D)) : Sx := svLet m fun ds s => if ds.length = fr.length + 1 ∧ ds.length ≤ 1000 then .ex ⟨c, xfl f1 fr ds⟩ s else .no
/-- the class c may be raised: its init fills f1, fr -/
structure XcP (P : Program) (w : World) (K : PySem.W.Frag) (mg : Str → Option Value) (base : Heap) (k : Nat) (c f1 : Str) (fr : List Str) : Prop where
  ex : ∃ (B n i : String) (bm : List Value) (fI : Addr) (fd : FuncData) (ps : List Str), XC K (He.ga K c) B n i bm ∧ PySem.W.findIn K (.ref (He.ga K c)) "__init__" = some (some (.ref fI)) ∧ PySem.W.typeIn K (.ref fI) = some (.type "function") ∧ VI.FnOk P w K mg base (CV P w) k fI fd ps (spX (He.ga K c) f1 fr) ∧ Binds K fd ps [] ∧ mg c = some (.ref (He.ga K c))
theorem XcP.mono {P : Program} {w : World} {K : PySem.W.Frag} {mg : Str → Option Value} {base : Heap} {j k : Nat} {c f1 : Str} {fr : List Str} (h : XcP P w K mg base j c f1 fr) (hk : j ≤ k) : XcP P w K mg base k c f1 fr := by
  obtain ⟨B, n, i, bm, fI, fd, ps, h1, h2, h3, h4, h5, h6⟩ := h.ex
  exact ⟨B, n, i, bm, fI, fd, ps, h1, h2, h3, h4.mono hk, h5, h6⟩
section
variable {a C dx : Addr}
theorem xst_at : ∀ (r fs : List (Str × V)) (H : Hp), dx ≠ a → H a = some (exo a C (some dx)) → H dx = some (exd dx fs) → xst a C dx r fs H a = some (exo a C (some dx)) ∧ xst a C dx r fs H dx = some (exd dx (r.reverse ++ fs)) ∧ ∀ b, b ≠ a → b ≠ dx → xst a C dx r fs H b = H b
  | [], fs, H, _, h1, h2 => ⟨h1, by simpa [xst] using h2, fun _ _ _ => rfl⟩
  | (f, y) :: r, fs, H, hn, h1, h2 => by
    obtain ⟨q1, q2, q3⟩ := xst_at r ((f, y) :: fs) (upd H dx (exd dx ((f, y) :: fs))) hn (by rw [upd_ne hn.symm]; exact h1) upd_same
    refine ⟨q1, ?_, fun b hb hd => (q3 b hb hd).trans (upd_ne hd)⟩
    rw [show xst a C dx ((f, y) :: r) fs H = xst a C dx r ((f, y) :: fs) (upd H dx (exd dx ((f, y) :: fs))) from rfl, q2]
    simp
end
theorem datF_app {K : PySem.W.Frag} {al : List Addr} {F : Hp} : ∀ {ds es : List (Str × D)} {vs us : List (Str × V)}, DatF K al F ds vs → DatF K al F es us → DatF K al F (ds ++ es) (vs ++ us)
  | _, _, _, _, .nil, h => h
  | _, _, _, _, .cons h t, q => .cons h (datF_app t q)
theorem datF_rev {K : PySem.W.Frag} {al : List Addr} {F : Hp} : ∀ {ds : List (Str × D)} {vs : List (Str × V)}, DatF K al F ds vs → DatF K al F ds.reverse vs.reverse
  | _, _, .nil => .nil
  | _, _, .cons h t => by
    rw [List.reverse_cons, List.reverse_cons]
    exact datF_app (datF_rev t) (.cons h .nil)
theorem datF_zip {K : PySem.W.Frag} {al : List Addr} {F : Hp} : ∀ {fr : List Str} {ds : List D} {vs : List V}, DatL K al F ds vs → DatF K al F (fr.zip ds) (fr.zip vs)
  | [], _, _, _ => .nil
  | _ :: _, _, _, .nil => .nil
  | _ :: _, _, _, .cons h t => .cons h (datF_zip t)
theorem xfl_dat {K : PySem.W.Frag} {al : List Addr} {F : Hp} {f1 : Str} {fr : List Str} {ds : List D} {vs : List V} (h : DatL K al F ds vs) : DatF K al F (xfl f1 fr ds) (xfl f1 fr vs) := by
  cases h with
  | nil => exact .nil
  | cons h t => exact datF_app (datF_rev (datF_zip t)) (.cons h .nil)
theorem good_raise {K : PySem.W.Frag} {W : Wx} {c f1 : Str} {fr : List Str} {ta : TA} {m : M (List D)} (g : GoodA K W ta m) : GoodS K W (fun _ σ H => tMkO (He.ga K c) (spX (He.ga K c) f1 fr) [] ta σ H fun cls d H' => W cls d σ H') (svRaise c f1 fr m) := fun E F al H σ s D rel w => by
  refine (g E F al H σ s rel).want (u := fun vs H1 => vs.length ≤ 1000 ∧ ∀ a, H1 a = none → spX (He.ga K c) f1 fr (.ref a :: (vs ++ [])) (upd H1 a (exo a (He.ga K c) none))
    (fun v H2 => v = .non ∧ ∃ (d : Addr) (fs : List (Str × V)), H2 a = some (exo a (He.ga K c) (some d)) ∧ H2 d = some (exd d fs) ∧ H1 d = none ∧ W (.ref (He.ga K c)) (some d) σ (upd (del H2 a) d (.xd fs))) (fun _ _ _ => False)) w (fun ds s1 vs F1 al1 H1 _ r1 gr q w1 => ?_) fun _ _ _ _ _ h => h
  have q : DatL K al1 F1 ds vs := q
  by_cases hl : ds.length = fr.length + 1 ∧ ds.length ≤ 1000
  · rw [if_pos hl] at w1
    obtain ⟨hl, hl2⟩ := hl
    refine ⟨by rw [← q.length]; exact hl2, fun a na => ?_⟩
    obtain ⟨y1, ys, rfl⟩ : ∃ y1 ys, vs = y1 :: ys := by
      cases vs with
      | nil => rw [q.length] at hl; simp at hl
      | cons y ys => exact ⟨y, ys, rfl⟩
    have hys : ys.length = fr.length := by rw [q.length] at hl; simpa using hl
    refine ⟨a, y1, ys, by simp, hys, upd_same, fun dx nd ne => ⟨rfl, dx, (fr.zip ys).reverse ++ [(f1, y1)], ?_⟩⟩
    have nd1 : H1 dx = none := by rw [upd_ne ne] at nd; exact nd
    obtain ⟨e1, e2⟩ := upd_at (H := upd H1 a (exo a (He.ga K c) none)) (o := exd dx [(f1, y1)]) (u := exo a (He.ga K c) (some dx)) ne
    obtain ⟨k1, k2, k3⟩ := xst_at (C := He.ga K c) (fr.zip ys) [(f1, y1)] _ ne e1 e2
    refine ⟨k1, k2, nd1, ?_⟩
    have eH : ∀ fs, upd (del (xst a (He.ga K c) dx (fr.zip ys) [(f1, y1)] (upd (upd (upd H1 a (exo a (He.ga K c) none)) dx (exd dx [(f1, y1)])) a (exo a (He.ga K c) (some dx)))) a) dx (.xd fs) = upd H1 dx (.xd fs) := fun fs => by
      funext b
      by_cases hb : b = dx
      · rw [hb, upd_same, upd_same]
      · rw [upd_ne hb, upd_ne hb]
        by_cases ha : b = a
        · rw [ha, del_same, na]
        · rw [del_ne ha, k3 b ha hb, upd_ne ha, upd_ne hb, upd_ne ha]
    rw [eH]
    have r2 := r1.new0 (o := .xd ((fr.zip ys).reverse ++ [(f1, y1)])) nd1
    refine w1 (.ref (He.ga K c)) (some dx) F1 al1 _ σ r2 .refl ⟨rfl, .inr ⟨dx, _, rfl, upd_same, (r1.sub.free nd1), fun hm => ?_, xfl_dat q⟩⟩
    exact (r1.cellH hm).2 nd1
  · rw [if_neg hl] at w1
    exact w1.elim
section
variable {X : Cx} {W : Wx} {K : PySem.W.Frag} {k : Nat} {c x f1 : Str} {fr : List Str} {e : Expr} {es : List Expr} {ta : TA} {m : M (List D)} {p pos pos2 : Pos}
theorem ss_raise (F : XcP X.prog X.w K X.mg X.base k c f1 fr) (hr : VI.Room (k + 1) X.A) (bx : Bx X W) (ha : SA X K W (e :: es) ta m) (hx : x = c := by rfl) (hg : Gl X x := by rfl) (hc : X.calm = true := by rfl)
    (hdb : (x == ("__debug__" : Str)) = false := by decide) (he : starEach (e :: es) X.env = (false, eval e X.env) :: starEach es X.env := by rfl) (hpl : (backTo pos (starEach es X.env)).any (·.1) = false := by rfl) :
    SS X K W (.Raise (some (.Call (.Name x p) (e :: es) [] pos)) none pos2) (fun _ σ H => tMkO (He.ga K c) (spX (He.ga K c) f1 fr) [] ta σ H fun cls d H' => W cls d σ H') (svRaise c f1 fr m) := by
  subst hx
  obtain ⟨rfl, pa, ga⟩ := ha
  obtain ⟨B, n, i, bm, fI, fd, ps, h1, h2, h3, h4, h5, h6⟩ := F.ex
  exact ⟨rfl, ps_raise hc bx.tk (pmk_x h1 h2 h3 h4 hr h5 hg h6 pa hdb he hpl), good_raise ga⟩
end
end VI
end
section
set_option Elab.async false
set_option linter.all false
set_option maxRecDepth 100000
set_option maxHeartbeats 4000000
/-! V46: try with several except clauses, of one class or of a tuple, with a name or without. -/
namespace VI
open PySem PySem.Spec PyProof.Rows L2 NdefX

theorem flyZ_keeps {base h h' : Heap} {l : List Env} {e : Addr} {Z : Obj → Prop} (R : HandSPX.FlyingZ base l e Z h) (k : ∀ b o, h.get? b = some o → h'.get? b = some o) : HandSPX.FlyingZ base l e Z h' := by
  obtain ⟨f1, f2, f3, oe, vs, T, oT, ts, he, hz, hd, h1, hn, hne, hT, hdT, h3⟩ := R
  exact ⟨fun b o q => k b o (f1 b o q), f2, f3.of_keeps fun b o q _ => ⟨o, k b o q, rfl⟩, oe, vs, T, oT, ts, k _ _ he, hz, hd, h1, hn, hne, k _ _ hT, hdT, h3⟩
/-- the test of an except clause names the classes cs -/
def Tests (X : Cx) (t : Expr) (cs : List Value) : Prop := ∀ (a : Addr) (oe : Obj) (pn : List (Addr × Obj)) (σ : L2.St) (H : Hp) (s : Shared) (cls : Value) (b : Bool), Inv (X.suite a ((a, oe) :: pn)) [] σ H s → PySem.W.Looks (model X.prog X.w) s.heap (typeOf (.ref a)) cls → PySem.W.exmAny X.K cls cs = some b →
  ∀ (Q : Bool → Shared → Prop) (E : Value → Shared → Prop), (∀ h', (∀ q o, s.heap.get? q = some o → h'.get? q = some o) → Q b { s with heap := h' }) → wpAny (model X.prog X.w) (X.A.mark (some (.ref a))) (eval t X.env) (fun c s1 => wpAny (model X.prog X.w) (X.A.mark (some (.ref a))) (excMatches (.ref a) c) Q E s1) E s
section
variable {X : Cx} {x y z : Str} {c c2 c3 : Value} {np n1 n2 n3 : Pos}
theorem nm_at (hc : Names X x c) {a : Addr} {pl : List (Addr × Obj)} {σ : L2.St} {H : Hp} {s : Shared} {Q E : Value → Shared → Prop} (S : Inv (X.suite a pl) [] σ H s) (q : Q c s) : wpAny (model X.prog X.w) (X.A.mark (some (.ref a))) (eval (.Name x np) X.env) Q E s := by
  obtain ⟨hg, hdbg, hm | ⟨hm, hv, hnn⟩⟩ := hc
  · exact ld_glob (X := X.suite a pl) S hg hm q hdbg
  · exact ld_blt (X := X.suite a pl) S hg hm hv q hnn hdbg
theorem tests_one (hc : Names X x c) : Tests X (.Name x np) [c] := fun a oe pn σ H s cls b S LT hx Q E q => by
  obtain ⟨b1, d1, h1, h2, h3⟩ := PySem.W.exmAny_cons hx
  have h4 : some false = some d1 := h2
  cases h4
  rw [Bool.or_false] at h3
  subst h3
  exact nm_at hc S ((PySem.W.exm_one S.kIn LT h1).here (q s.heap fun _ _ z => z))
theorem tests_tup2 {kk : _} {tp : Pos} (h1 : Names X x c) (h2 : Names X y c2) : Tests X (.Tuple [.Name x n1, .Name y n2] kk tp) [c, c2] := fun a oe pn σ H s cls b S LT hx Q E q => by
  refine wpAny_Tuple ?_
  refine wpAny_items_cons (nm_at h1 S (wpAny_items_cons (nm_at h2 S (wpAny_items_nil ⟨by size_fits, ?_⟩))))
  have kp : ∀ q o, s.heap.get? q = some o → (s.heap.push { cls := .type "tuple", data := .seq [c, c2].toArray }).get? q = some o := fun _ _ z => Heap.get?_push_of_some _ z
  exact (PySem.W.exm_tup2 (S.kIn.keeps kp) (LT.keeps kp) (Heap.get?_push_size s.heap rfl) hx).here (q _ kp)
theorem tests_tup3 {kk : _} {tp : Pos} (h1 : Names X x c) (h2 : Names X y c2) (h3 : Names X z c3) : Tests X (.Tuple [.Name x n1, .Name y n2, .Name z n3] kk tp) [c, c2, c3] := fun a oe pn σ H s cls b S LT hx Q E q => by
  refine wpAny_Tuple ?_
  refine wpAny_items_cons (nm_at h1 S (wpAny_items_cons (nm_at h2 S (wpAny_items_cons (nm_at h3 S (wpAny_items_nil ⟨by size_fits, ?_⟩))))))
  have kp : ∀ q o, s.heap.get? q = some o → (s.heap.push { cls := .type "tuple", data := .seq [c, c2, c3].toArray }).get? q = some o := fun _ _ z => Heap.get?_push_of_some _ z
  exact (PySem.W.exm_tup3 (S.kIn.keeps kp) (LT.keeps kp) (Heap.get?_push_size s.heap rfl) hx).here (q _ kp)
end
/-- a clause: its classes, its name's slot, its suite -/
abbrev Hdl : Type := List Value × Option Nat × (Addr → Value → Option Addr → TS)
def hdEnd (D : Ends) : Option Nat → Ends
  | none => D
  | some i => { nx := fun σ' H' => D.nx (σ'.set i none) H', rt := D.rt, bk := fun σ' H' => D.bk (σ'.set i none) H', ct := fun σ' H' => D.ct (σ'.set i none) H' }
def hdSt (σ : L2.St) (a : Addr) : Option Nat → L2.St
  | none => σ
  | some i => σ.set i (some (.ref a))
def wMix (K : PySem.W.Frag) (Wout : Wx) (D : Ends) : List Hdl → Wx
  | [] => Wout
  | (cs, n, ts) :: r => fun cls d σ H => ∃ b, PySem.W.exmAny K cls cs = some b ∧ (b = true → ∀ a, H a = none → ts a cls d (hdEnd D n) (hdSt σ a n) H) ∧ (b = false → wMix K Wout D r cls d σ H)
inductive HdsMix (X : Cx) : List ExceptHandler → List Hdl → Prop
  | nil : HdsMix X [] []
  | cons {t : Expr} {cs : List Value} {ts : Addr → Value → Option Addr → TS} {b₀ : Stmt} {suite : List Stmt} {pos' : Pos} {hds : List ExceptHandler} {l : List Hdl} (hc : Tests X t cs)
      (hsu : ∀ (a : Addr) (oe : Obj) (cls : Value) (d : Option Addr) (pn : List (Addr × Obj)), Zc cls d oe → (∃ vs, oe.data = .fields vs) → PSs (X.suite a ((a, oe) :: pn)) (b₀ :: suite) (ts a cls d)) (r : HdsMix X hds l) :
      HdsMix X (.ExceptHandler (some t) none (b₀ :: suite) pos' :: hds) ((cs, none, ts) :: l)
  | as {t : Expr} {n : Str} {i : Nat} {cs : List Value} {ts : Addr → Value → Option Addr → TS} {b₀ : Stmt} {suite : List Stmt} {pos' : Pos} {hds : List ExceptHandler} {l : List Hdl} (hc : Tests X t cs) (hi : X.N[i]? = some n) (hln : X.env.kindOf n = some .local)
      (hsu : ∀ (a : Addr) (oe : Obj) (cls : Value) (d : Option Addr) (pn : List (Addr × Obj)), Zc cls d oe → (∃ vs, oe.data = .fields vs) → PSs (X.suite a ((a, oe) :: pn)) (b₀ :: suite) (ts a cls d)) (r : HdsMix X hds l) :
      HdsMix X (.ExceptHandler (some t) (some n) (b₀ :: suite) pos' :: hds) ((cs, some i, ts) :: l)
section
variable {X : Cx} {body : List Stmt} {h₀ : ExceptHandler} {hds : List ExceptHandler} {l : List Hdl} {pos : Pos} {tb : Wx → TS} {Wout : Wx}
theorem ps_try_mix (hs : X.stack = X.env :: X.outer) (hf : X.env.frame = some X.env.locals) (hN : X.N.Nodup) (tk : L2.Takes X Wout)
    (hb : ∀ (W : Wx) (pn : List (Addr × Obj)) (xe : Value → Shared → Prop), L2.Takes (X.tr pn xe) W → PassesOwn (model X.prog X.w) X.A X.env xe → PSs (X.tr pn xe) body (tb W))
    (hh : HdsMix X (h₀ :: hds) l) : PS X (.Try body (h₀ :: hds) [] [] pos) (fun D σ H => tb (wMix X.K Wout D l) D σ H) := by
  refine ⟨fun pins s σ H D I h => ?_⟩
  have ok := I.ok
  have hfr : X.A.frames = some (X.env :: X.outer) := by rw [ok.frames, hs]
  refine wpAny_Try_except ?_
  refine wpAny_mono ((hb (wMix X.K Wout D l) (X.pn ++ pins) (fun e s₁ => wpAny (model X.prog X.w) X.A (noteFrame e X.env) (fun _ s₂ => wpAny (model X.prog X.w) X.A (setFlight e none) (fun _ s₃ =>
    wpAny (model X.prog X.w) X.A (handleBy e X.env (h₀ :: hds)) (SP X pins D) X.xe s₃) X.xe s₂) X.xe s₁) (fun u s' xx => ?_) PassesOwn.looking).run [] s σ H D (I.toTry _) h) (fun f s1 hsp => ?_) (fun e s1 he => he)
  · obtain ⟨a, B, sI, pins', σ', H', cls, d, rfl, J', nb, up, sky, na, os, ag, w⟩ := xx
    have J : Inv X pins σ' H' sI := J'.ofTry ok
    have sky' : Sky B (X.env :: X.outer) a (Zc cls d) X.env.locals s'.heap := by rw [← hs]; exact sky
    show wpAny (model X.prog X.w) X.A (noteFrame (.ref a) X.env) _ _ _
    refine Sky.land Zc.steady hfr hf sky' fun h3 fl3 up3 => ?_
    have notFr : ∀ {h : Heap} {o : Obj} {vs : Array Value}, h.FunFrames B (X.env :: X.outer) → h.get? a = some o → o.data = .fields vs → a ∉ frs (X.env :: X.outer) := fun {h o vs} ff e dd hm => by
      obtain ⟨_, o', e', hnf⟩ := ff.mem hm
      rw [e] at e'; cases e'
      exact hnf _ dd
    obtain ⟨oe0, vs0, he0, hz0, hd0⟩ := fl3.there
    have nfr := notFr fl3.2.2.1 he0 hd0
    have nL : a ≠ X.env.locals := fun z => nfr (List.mem_filterMap.mpr ⟨X.env, List.mem_cons_self, by rw [hf, z]⟩)
    have nF : a ∉ X.fs := fun hm => by
      obtain ⟨e, he, q⟩ := List.mem_filterMap.mp hm
      exact nfr (List.mem_filterMap.mpr ⟨e, List.mem_cons_of_mem _ he, q⟩)
    -- a suite that is entered
    have enter : ∀ {A' : Around} {h3 : Heap} {Q : Shared → Prop} {E : Value → Shared → Prop}, HandSPX.FlyingZ B (X.env :: X.outer) a (Zc cls d) h3 → s'.heap.UpToSlots h3 → (∀ oe s4, Zc cls d oe → (∃ vs, oe.data = .fields vs) → Inv (X.suite a ((a, oe) :: (X.pn ++ pins))) [] σ' H' s4 → Q s4) →
        wpAny (model X.prog X.w) A' (setFlight (.ref a) none) (fun _ s4 => Q s4) E { s' with heap := h3 } := fun {A' h3 Q E} fl3 up3 k => by
      refine HandSPX.lands_againZ fl3 fun h4 fl4 up4 => ?_
      have J4 : Inv X pins σ' H' { s' with heap := h4 } := J.landed nb fl4.1 ((up.trans up3).trans up4) os ag
      obtain ⟨oe4, vs4, he4, hz4, hd4⟩ := fl4.there
      exact k oe4 _ hz4 ⟨_, hd4⟩ (J4.suite he4 hd4 na nL nF)
    have go : ∀ {hds' : List ExceptHandler} {l' : List Hdl}, HdsMix X hds' l' → ∀ (h3 : Heap), HandSPX.FlyingZ B (X.env :: X.outer) a (Zc cls d) h3 → s'.heap.UpToSlots h3 → wMix X.K Wout D l' cls d σ' H' →
        wpAny (model X.prog X.w) X.A (handleBy (.ref a) X.env hds') (SP X pins D) X.xe { s' with heap := h3 } := by
      intro hds' l' hk
      induction hk with
      | nil =>
        intro h3 fl3 up3 w
        refine wpAny_handleBy_nil ?_
        obtain ⟨k1, k2, k3, oe, vs, T, oT, ts', he, hz, hd, h1, hr⟩ := id fl3
        unfold PySem.passOn
        refine wpAny_bind (wpAny_field he hd h1 ?_)
        rw [if_neg (show ¬ ((Value.ref T == Value.none) = true) from by simp)]
        have fin : wpAny (model X.prog X.w) X.A (setFlight (.ref a) X.env.frame) (fun _ s4 => wpAny (model X.prog X.w) X.A (throw (.ref a) : Sem Flow) (SP X pins D) X.xe s4) X.xe { s' with heap := h3 } := by
          rw [hf]
          refine HandSPX.setFlight_upZ fl3 fun h4 hh4 up4 => wpAny_throw (tk _ _ ?_)
          exact ⟨a, B, sI, pins, σ', H', cls, d, rfl, J, nb, (up.trans up3).trans up4, .inr (.inr (by rw [hs]; exact hh4)), na, os, ag, w⟩
        first
          | exact wpAny_bind (wpAny_pure (wpAny_bind fin))
          | exact wpAny_bind fin
      | @cons t cs ts b₀ suite pos' hds2 l2 hc hsu r ih =>
        intro h3 fl3 up3 w
        obtain ⟨b, hb1, hyes, hno⟩ := w
        obtain ⟨oe3, vs3, he3, hz3, hd3⟩ := fl3.there
        have J3 : Inv X pins σ' H' { s' with heap := h3 } := J.landed nb fl3.1 (up.trans up3) os ag
        have S3 := J3.suite he3 hd3 na nL nF
        have LT : PySem.W.Looks (model X.prog X.w) h3 (typeOf (.ref a)) cls := fun A Q E s k q => wpAny_typeOf_ref (k _ _ he3) (by rw [hz3.1]; exact q)
        refine wpAny_handleBy_cons (codeAny_handlers_test ?_) (by intro q; cases q)
        refine hc a oe3 (X.pn ++ pins) σ' H' _ cls b S3 LT hb1 _ _ fun h5 k5 => ?_
        have fl5 := flyZ_keeps fl3 k5
        have up5 : s'.heap.UpToSlots h5 := up3.trans (Heap.UpToSlots.of_keeps k5)
        cases b with
        | true =>
          refine codeAny_handlers_suite ?_
          refine enter fl5 up5 fun oe4 s4 z4 d4 S4 => ?_
          refine wpAny_mono ((hsu a oe4 cls d (X.pn ++ pins) z4 d4).run [] _ _ H' _ S4 (hyes rfl a na)) (fun f s6 hsp => ?_) (fun _ _ z => False.elim z)
          cases f with
          | next => obtain ⟨σ6, H6, S6, q6⟩ := hsp; exact ⟨_, _, S6.unsuite ok, q6⟩
          | brk => obtain ⟨σ6, H6, S6, q6⟩ := hsp; exact ⟨_, _, S6.unsuite ok, q6⟩
          | cont => obtain ⟨σ6, H6, S6, q6⟩ := hsp; exact ⟨_, _, S6.unsuite ok, q6⟩
          | ret u => obtain ⟨v6, σ6, H6, S6, r6, q6⟩ := hsp; exact ⟨_, _, _, S6.unsuite ok, r6, q6⟩
        | false =>
          show wpAny _ X.A (handleBy (.ref a) X.env hds2) _ _ _
          exact ih h5 fl5 up5 (hno rfl)
      | @as t n i cs ts b₀ suite pos' hds2 l2 hc hi hln hsu r ih =>
        intro h3 fl3 up3 w
        obtain ⟨b, hb1, hyes, hno⟩ := w
        have hloc : Loc X.env.scope n := .inl hln
        obtain ⟨oe3, vs3, he3, hz3, hd3⟩ := fl3.there
        have J3 : Inv X pins σ' H' { s' with heap := h3 } := J.landed nb fl3.1 (up.trans up3) os ag
        have S3 := J3.suite he3 hd3 na nL nF
        have LT : PySem.W.Looks (model X.prog X.w) h3 (typeOf (.ref a)) cls := fun A Q E s k q => wpAny_typeOf_ref (k _ _ he3) (by rw [hz3.1]; exact q)
        refine wpAny_handleBy_cons (codeAny_handlers_test ?_) (by intro q; cases q)
        refine hc a oe3 (X.pn ++ pins) σ' H' _ cls b S3 LT hb1 _ _ fun h5 k5 => ?_
        have fl5 := flyZ_keeps fl3 k5
        have up5 : s'.heap.UpToSlots h5 := up3.trans (Heap.UpToSlots.of_keeps k5)
        cases b with
        | true =>
          refine codeAny_handlers_suite_as ?_
          refine enter fl5 up5 fun oe4 s4 z4 d4 S4 => ?_
          refine L2.store_ok (X := X.suite a ((a, oe4) :: (X.pn ++ pins))) (v := .ref a) S4 hN hi hloc rfl (fun s5 S5 => ?_) (.inr hln)
          refine wpAny_mono ((hsu a oe4 cls d (X.pn ++ pins) z4 d4).run [] s5 _ H' _ S5 (hyes rfl a na)) (fun f s6 hsp => ?_) (fun _ _ z => False.elim z)
          have end_ : ∀ {σ6 : L2.St} {H6 : Hp} {Q : Shared → Prop}, Inv (X.suite a ((a, oe4) :: (X.pn ++ pins))) [] σ6 H6 s6 → (∀ s7, Inv X pins (σ6.set i none) H6 s7 → Q s7) →
              wpAny (model X.prog X.w) X.A (do bindName X.env n .none; unbindBehindTheSuite X.env n pos') (fun _ s7 => Q s7) X.xe s6 := fun {σ6 H6 Q} S6 hq => gone_ok (S6.unsuite ok) hN hi hln hq
          cases f with
          | next => obtain ⟨σ6, H6, S6, q6⟩ := hsp; exact end_ S6 fun s7 J7 => ⟨_, _, J7, q6⟩
          | brk => obtain ⟨σ6, H6, S6, q6⟩ := hsp; exact end_ S6 fun s7 J7 => ⟨_, _, J7, q6⟩
          | cont => obtain ⟨σ6, H6, S6, q6⟩ := hsp; exact end_ S6 fun s7 J7 => ⟨_, _, J7, q6⟩
          | ret u => obtain ⟨v6, σ6, H6, S6, r6, q6⟩ := hsp; exact end_ S6 fun s7 J7 => ⟨_, _, _, J7, r6, q6⟩
        | false =>
          show wpAny _ X.A (handleBy (.ref a) X.env hds2) _ _ _
          exact ih h5 fl5 up5 (hno rfl)
    exact go hh h3 fl3 up3 w
  · cases f with
    | next => obtain ⟨σ', H', J', q⟩ := hsp; exact wpAny_execs_nil ⟨σ', H', J'.ofTry ok, q⟩
    | brk => obtain ⟨σ', H', J', q⟩ := hsp; exact ⟨σ', H', J'.ofTry ok, q⟩
    | cont => obtain ⟨σ', H', J', q⟩ := hsp; exact ⟨σ', H', J'.ofTry ok, q⟩
    | ret u => obtain ⟨v, σ', H', J', r, q⟩ := hsp; exact ⟨v, σ', H', J'.ofTry ok, r, q⟩
end
end VI
end
section
set_option Elab.async false
set_option linter.all false
set_option maxRecDepth 100000
set_option maxHeartbeats 4000000
/-! V47: try and its clauses by values. -/
namespace VI
open PySem PySem.Spec PyProof.Rows L2 NdefX

/-! ### the exception in a suite -/
section
variable {K : PySem.W.Frag} {E : Ent} {F F1 H H1 : Hp} {al al1 : List Addr} {σ : L2.St} {s s1 : S} {cls : Value} {d : Option Addr} {x : Xc}
theorem xd_no {o : Ob} {vs : List (Str × V)} (h : ObR K al F o (.xd vs)) : False := by cases o <;> exact h.elim
theorem XcR.mono (h : XcR K al F H cls d x) (rel : Rel K E F al H σ s) (st : Stp σ s s1 F al H F1 al1 H1) : XcR K al1 F1 H1 cls d x := by
  obtain ⟨e, h⟩ := h
  refine ⟨e, ?_⟩
  rcases h with h | ⟨dx, vs, e2, h1, h2, h3, h4⟩
  · exact .inl h
  · have no : ∀ {i : Nat} {p : Bool} {o : Ob}, s.env[i]? = some (.ow p o) → σ[i]? = some (some (V.ref dx)) → False := fun {i p o} q1 q2 => by
      obtain ⟨b, ho, e5, z1, z2, z3, z4⟩ := rel.env i _ _ q1 q2
      cases e5
      rw [h1] at z3
      cases z3
      exact xd_no z4
    refine .inr ⟨dx, vs, e2, st.ext.keep _ _ h1 ?_, ?_, ?_, ?_⟩
    · rintro (h | ⟨i, p, o, q1, q2⟩)
      · exact h3 h
      · exact no q1 q2
    · cases q : F1 dx with
      | none => rfl
      | some u =>
        rcases st.ext.fn _ _ q with z | z | ⟨i, o, q1, q2⟩
        · rw [h2] at z; cases z
        · rw [h1] at z; cases z
        · exact (no q1 q2).elim
    · intro hm
      obtain ⟨l, e3, n⟩ := st.ext.al
      rw [e3] at hm
      rcases List.mem_append.mp hm with z | z
      · exact h3 z
      · rw [n dx z] at h1; cases h1
    · have go : ∀ {fs : List (Str × D)} {vs : List (Str × V)}, DatF K al F fs vs → DatF K al1 F1 fs vs := fun q => q.mono st.gr
      exact go h4
theorem Rel.setUn (r : Rel K E F al H σ s) (i : Nat) (v : Option V) : Rel K E F al H (σ.set i v) { s with env := s.env.set i .un } := by
  refine ⟨r.sub, r.clen, r.cell, r.nd, by show (s.env.set i .un).length = (σ.set i v).length; rw [List.length_set, List.length_set]; exact r.elen, fun j sl v' e1 e2 => ?_, fun j k p q o u a e1 e2 e3 e4 => ?_, r.ent, fun j p o a e1 e2 => ?_⟩
  · rcases set_get e1 with ⟨rfl, rfl, _⟩ | ⟨ne, e1⟩
    · exact True.intro
    · rw [List.getElem?_set_ne ne] at e2
      exact r.env j sl v' e1 e2
  · rcases set_get e1 with ⟨rfl, z, _⟩ | ⟨ne, e1⟩
    · cases z
    · rcases set_get e2 with ⟨rfl, z, _⟩ | ⟨ne2, e2⟩
      · cases z
      · rw [List.getElem?_set_ne ne] at e3
        rw [List.getElem?_set_ne ne2] at e4
        exact r.own j k p q o u a e1 e2 e3 e4
  · rcases set_get e1 with ⟨rfl, z, _⟩ | ⟨ne, e1⟩
    · cases z
    · rw [List.getElem?_set_ne ne] at e2
      exact r.onew j p o a e1 e2
end
/-- what a suite stands on: the exception at a, the slot that has it -/
def XH (K : PySem.W.Frag) (n : Option Nat) (a : Addr) (cls : Value) (d : Option Addr) (x : Xc) (al : List Addr) (F H : Hp) (σ : L2.St) : Prop := XcR K al F H cls d x ∧ ∀ i, n = some i → σ[i]? = some (some (.ref a))
abbrev TEx : Type := Addr → Value → Option Addr → TE
abbrev TAx : Type := Addr → Value → Option Addr → TA
abbrev TSx : Type := Addr → Value → Option Addr → TS
def GoodXE (K : PySem.W.Frag) (n : Option Nat) (te : TEx) (ev : Xc → M Va) : Prop := ∀ (a : Addr) (cls : Value) (d : Option Addr) (x : Xc) (E : Ent) (F : Hp) (al : List Addr) (H : Hp) (σ : L2.St) (s : S), Rel K E F al H σ s → XH K n a cls d x al F H σ → Sat K E W0 (VR K E σ) F al H σ s (te a cls d σ H) (ev x s)
def GoodXA (K : PySem.W.Frag) (n : Option Nat) (ta : TAx) (ev : Xc → M (List D)) : Prop := ∀ (a : Addr) (cls : Value) (d : Option Addr) (x : Xc) (E : Ent) (F : Hp) (al : List Addr) (H : Hp) (σ : L2.St) (s : S), Rel K E F al H σ s → XH K n a cls d x al F H σ → Sat K E W0 (LR K) F al H σ s (ta a cls d σ H) (ev x s)
def GoodXS (K : PySem.W.Frag) (n : Option Nat) (ts : TSx) (sv : Xc → Sx) : Prop := ∀ (a : Addr) (cls : Value) (d : Option Addr) (x : Xc) (E : Ent) (F : Hp) (al : List Addr) (H : Hp) (σ : L2.St) (s : S) (D : Ends), Rel K E F al H σ s → XH K n a cls d x al F H σ → Wants K E W0 al F D (sv x s) → ts a cls d D σ H
def SXE (X : Cx) (K : PySem.W.Frag) (n : Option Nat) (e : Expr) (te : TEx) (ev : Xc → M Va) : Prop := X.K = K ∧ (∀ (a : Addr) (oe : Obj) (cls : Value) (d : Option Addr) (pn : List (Addr × Obj)), Zc cls d oe → (∃ vs, oe.data = .fields vs) → PE (X.suite a ((a, oe) :: pn)) e (te a cls d)) ∧ GoodXE K n te ev
def SXA (X : Cx) (K : PySem.W.Frag) (n : Option Nat) (es : List Expr) (ta : TAx) (ev : Xc → M (List D)) : Prop := X.K = K ∧ (∀ (a : Addr) (oe : Obj) (cls : Value) (d : Option Addr) (pn : List (Addr × Obj)), Zc cls d oe → (∃ vs, oe.data = .fields vs) → PA (X.suite a ((a, oe) :: pn)) es (ta a cls d)) ∧ GoodXA K n ta ev
def SXS (X : Cx) (K : PySem.W.Frag) (n : Option Nat) (st : List Stmt) (ts : TSx) (sv : Xc → Sx) : Prop := X.K = K ∧ (∀ (a : Addr) (oe : Obj) (cls : Value) (d : Option Addr) (pn : List (Addr × Obj)), Zc cls d oe → (∃ vs, oe.data = .fields vs) → PSs (X.suite a ((a, oe) :: pn)) st (ts a cls d)) ∧ GoodXS K n ts sv
/-- e.f, where e is the caught exception -/
def evXf (cs : List Str) (f : Str) : Xc → M Va := fun x s => if cs.contains x.c = true then (match x.fs.lookup f with
  | some v => .ok (.im v) s
  | none => .no) else .no
def tXg (K : PySem.W.Frag) (i : Nat) (f : Str) : TEx := fun a cls d σ H Q => ∃ C, XfC K C ∧ PySem.W.findIn K (.ref C) f = some none ∧ tXf a cls d C f (tVar i) σ H Q
theorem datF_look {K : PySem.W.Frag} {al : List Addr} {F : Hp} {f : Str} {y : D} : ∀ {fs : List (Str × D)} {vs : List (Str × V)}, DatF K al F fs vs → fs.lookup f = some y → ∃ v, vs.lookup f = some v ∧ Dat K al F y v
  | _, _, .nil, h => by cases h
  | (k, z) :: fs, (_, v) :: vs, .cons h t, e => by
    by_cases hk : f = k
    · subst hk
      simp [List.lookup] at e ⊢
      subst e
      exact h
    · have hk' : (f == k) = false := by simpa using hk
      simp only [List.lookup, hk'] at e ⊢
      exact datF_look t e
section
variable {X : Cx} {K : PySem.W.Frag} {n : Option Nat} {e : Expr} {es : List Expr} {te : TEx} {ta : TAx} {ev : Xc → M Va} {evs : Xc → M (List D)} {ts : TSx} {sv : Xc → Sx} {pos : Pos}
/-- an expression that does not name the exception -/
theorem sx_of {t0 : TE} {ev0 : M Va} (hK : X.K = K) (hp : ∀ (a : Addr) (oe : Obj) (pn : List (Addr × Obj)), SE (X.suite a ((a, oe) :: pn)) K W0 e t0 ev0) : SXE X K n e (fun _ _ _ => t0) (fun _ => ev0) :=
  ⟨hK, fun a oe _ _ pn _ _ => (hp a oe pn).2.1, fun _ _ _ _ E F al H σ s rel _ => (hp 0 default []).2.2 E F al H σ s rel⟩
theorem sx_f {i : Nat} {x f : Str} {np : Pos} (cs : List Str) (hK : X.K = K) (hf : ∀ c ∈ cs, XfC K (He.ga K c) ∧ PySem.W.findIn K (.ref (He.ga K c)) f = some none) (hN : X.N[i]? = some x := by rfl) (hv : Vis X.env.scope x := by first | exact Or.inl rfl | exact Or.inr (Or.inl rfl) | exact Or.inr (Or.inr rfl)) (hd : (x == ("__debug__" : Str)) = false := by decide)
    (hcd : (x == ("__classdict__" : Str)) = false := by decide) (hb : attributeBase (.Name x np) f X.env (eval (.Name x np) X.env) = eval (.Name x np) X.env := by rfl) : SXE X K (some i) (.Attribute (.Name x np) f pos) (tXg K i f) (evXf cs f) := by
  subst hK
  refine ⟨rfl, fun a oe cls d pn hz hd' => ?_, fun a cls d x E F al H σ s rel xh => ?_⟩
  · refine ⟨fun pins s σ H Q I h => ?_⟩
    obtain ⟨C, h1, h2, h3⟩ := h
    exact (pe_xf (X := X) (C := C) (n := f) h1 h2 hz hd' (pe_var (X := X.suite a ((a, oe) :: pn)) hN hv hd hcd) hb).run pins s σ H Q I h3
  · unfold evXf
    by_cases hc : cs.contains x.c = true
    · rw [if_pos hc]
      obtain ⟨⟨e1, h⟩, h2⟩ := xh
      obtain ⟨k1, k2⟩ := hf x.c (by simpa using hc)
      cases hl : x.fs.lookup f with
      | none => exact True.intro
      | some v =>
        rcases h with ⟨h, _⟩ | ⟨dx, vs, e3, h4, h5, h6, h7⟩
        · rw [h] at hl; cases hl
        · obtain ⟨w, hw1, hw2⟩ := datF_look h7 hl
          exact fun Q hQ => ⟨_, k1, k2, .ref a, h2 i rfl, rfl, e1, dx, vs, w, e3, h4, hw1, hQ w F al H rel .refl hw2⟩
    · rw [if_neg hc]
      exact True.intro
theorem sxa_nil (hK : X.K = K) : SXA X K n [] (fun _ _ _ => tNil) (fun _ => evNil) := ⟨hK, fun _ _ _ _ _ _ _ => pa_nil, fun a cls d x E F al H σ s rel _ => fun Q hQ => hQ [] F al H rel .refl .nil⟩
theorem sxa_cons (he : SXE X K n e te ev) (hr : SXA X K n es ta evs) (hs : starEach (e :: es) X.env = (false, eval e X.env) :: starEach es X.env := by rfl) : SXA X K n (e :: es) (fun a cls d => tCons (te a cls d) (ta a cls d)) (fun x => evCons (ev x) (evs x)) := by
  obtain ⟨rfl, pe, ge⟩ := he
  obtain ⟨_, pa, ga⟩ := hr
  refine ⟨rfl, fun a oe cls d pn hz hd => pa_cons (pe a oe cls d pn hz hd) (pa a oe cls d pn hz hd) hs, fun a cls d x E F al H σ s rel xh => ?_⟩
  refine Sat.bind (u := fun y H1 Q => ta a cls d σ H1 fun xs H2 => Q (y :: xs) H2) LR.low (ge a cls d x E F al H σ s rel xh).esc fun y s1 w1 F1 al1 H1 _ rel1 st1 v1 => ?_
  refine Sat.bind (u := fun xs H2 Q => Q (w1 :: xs) H2) LR.low (ga a cls d x E F1 al1 H1 σ s1 rel1 ⟨xh.1.mono rel st1, xh.2⟩) fun ds s2 w2 F2 al2 H2 _ rel2 st2 v2 => ?_
  exact fun Q hQ => hQ _ F2 al2 H2 rel2 .refl (.cons (v1.mono st2.gr) v2)
theorem sx_lst (h : SXA X K n es ta evs) : SXE X K n (.List es pos) (fun a cls d => tLst (ta a cls d)) (fun x => evLst (evs x)) := by
  obtain ⟨rfl, pa, ga⟩ := h
  refine ⟨rfl, fun a oe cls d pn hz hd => pe_lst (pa a oe cls d pn hz hd), fun a cls d x E F al H σ s rel xh => ?_⟩
  refine Sat.bind (u := fun xs H1 Q => xs.length ≤ sizeLine ∧ ∀ p, H1 p = none → Q (.ref p) (upd H1 p (.lst xs))) VR.low (ga a cls d x E F al H σ s rel xh) fun ds s1 vs F1 al1 H1 _ rel1 st1 v1 => ?_
  show Sat X.K E W0 (VR X.K E σ) F1 al1 H1 σ s1 _ (if ds.length ≤ sizeLine then .ok (.fr (.lst ds)) s1 else .no)
  by_cases hz : ds.length ≤ sizeLine
  · rw [if_pos hz]
    exact fun Q hQ => ⟨by rw [← DatL.length v1]; exact hz, fun p hp => fin_l rel1 v1 hz hQ p hp⟩
  · rw [if_neg hz]; exact True.intro
theorem sx_tup {k : _} (h : SXA X K n es ta evs) : SXE X K n (.Tuple es k pos) (fun a cls d => tTup (ta a cls d)) (fun x => evTup (evs x)) := by
  obtain ⟨rfl, pa, ga⟩ := h
  refine ⟨rfl, fun a oe cls d pn hz hd => pe_tup (pa a oe cls d pn hz hd), fun a cls d x E F al H σ s rel xh => ?_⟩
  refine Sat.bind (u := fun xs H1 Q => xs.length ≤ sizeLine ∧ ∀ p, H1 p = none → Q (.ref p) (upd H1 p (.tup xs))) VR.low (ga a cls d x E F al H σ s rel xh) fun ds s1 vs F1 al1 H1 _ rel1 st1 v1 => ?_
  show Sat X.K E W0 (VR X.K E σ) F1 al1 H1 σ s1 _ (if ds.length ≤ sizeLine then .ok (.im (.tup ds)) s1 else .no)
  by_cases hz : ds.length ≤ sizeLine
  · rw [if_pos hz]
    exact fun Q hQ => ⟨by rw [← DatL.length v1]; exact hz, fun p hp => fin_t rel1 v1 hz hQ p hp⟩
  · rw [if_neg hz]; exact True.intro
/-- return of a new list or a datum -/
theorem sxs_ret (h : SXE X K n e te ev) : SXS X K n [.Return (some e) pos] (fun a cls d => tRet (te a cls d)) (fun x => svLet (ev x) fun v s => match v with
    | .im d => .rt (.im d) s
    | .fr o => .rt (.fr o) s
    | .pl _ => .no) := by
  obtain ⟨rfl, pe, ge⟩ := h
  refine ⟨rfl, fun a oe cls d pn hz hd => pss_one (ps_ret (pe a oe cls d pn hz hd)), fun a cls d x E F al H σ s D rel xh w => (ge a cls d x E F al H σ s rel xh).want w (fun v s1 y F1 al1 H1 hm r gr q w1 => ?_) fun _ _ _ _ _ h => h⟩
  cases v with
  | im d => exact w1 y F1 al1 H1 σ r .refl q (fun _ e => by cases e)
  | fr o =>
    obtain ⟨b, ho, e, h1, h2, h3, h4, h5, h6⟩ := q
    exact w1 y F1 al1 H1 σ r .refl ⟨b, ho, e, h1, h2, h3, h4, h5, h5⟩ (fun _ e => by cases e)
  | pl i => exact w1.elim
end
end VI
end
section
set_option Elab.async false
set_option linter.all false
set_option maxRecDepth 100000
set_option maxHeartbeats 4000000
/-! V48: try by values. -/
namespace VI
open PySem PySem.Spec PyProof.Rows L2 NdefX

/-- own exception classes that may fly: their own bases, themselves -/
abbrev XTab : Type := List (Str × List Str)
/-- hn: the classes that clauses name -/
def xtB (K : PySem.W.Frag) (xt : XTab) (hn : List Str) : Bool := xt.all fun p => hn.all fun h => decide (PySem.W.exmOne K (.ref (He.ga K p.1)) (.ref (He.ga K h)) = some (p.2.contains h))
abbrev XHd : Type := List Str × Option Nat × (Xc → Sx)
def unS (n : Option Nat) (s : S) : S := match n with
  | none => s
  | some i => { s with env := s.env.set i .un }
def okS (n : Option Nat) (s : S) : Bool := match n with
  | none => true
  | some i => decide (i < s.env.length)
/-- behind a suite -/
def outS (n : Option Nat) : Ot → Ot
  | .nx s => .nx (unS n s)
  | .bk s => .bk (unS n s)
  | .ct s => .ct (unS n s)
  | .rt v s => .rt v s
  | .ex _ _ => .no
  | .no => .no
def tryH (xt : XTab) : List XHd → Xc → Sx
  | [], x, s => .ex x s
  | (cs, n, h) :: r, x, s => match (xt.lookup x.c).map fun sup => cs.any (sup.contains ·) with
    | some true => if okS n s = true then outS n (h x (unS n s)) else .no
    | some false => tryH xt r x s
    | none => .no
def svTry (body : Sx) (xt : XTab) (hs : List XHd) : Sx := fun s => match body s with
  | .ex x s' => tryH xt hs x s'
  | o => o
/-- the clauses' worth -/
inductive SHs (X : Cx) (K : PySem.W.Frag) (hn : List Str) : List ExceptHandler → List Hdl → List XHd → Prop
  | nil : SHs X K hn [] [] []
  | cons {t : Expr} {cs : List Str} {ts : TSx} {sv : Xc → Sx} {b₀ : Stmt} {suite : List Stmt} {pos' : Pos} {hds : List ExceptHandler} {l : List Hdl} {hs : List XHd} (hc : Tests X t (cs.map fun c => .ref (He.ga K c))) (hin : cs.all (hn.contains ·) = true)
      (h : SXS X K none (b₀ :: suite) ts sv) (r : SHs X K hn hds l hs) : SHs X K hn (.ExceptHandler (some t) none (b₀ :: suite) pos' :: hds) ((cs.map fun c => .ref (He.ga K c), none, ts) :: l) ((cs, none, sv) :: hs)
  | as {t : Expr} {n : Str} {i : Nat} {cs : List Str} {ts : TSx} {sv : Xc → Sx} {b₀ : Stmt} {suite : List Stmt} {pos' : Pos} {hds : List ExceptHandler} {l : List Hdl} {hs : List XHd} (hc : Tests X t (cs.map fun c => .ref (He.ga K c))) (hin : cs.all (hn.contains ·) = true) (hi : X.N[i]? = some n) (hln : X.env.kindOf n = some .local)
      (h : SXS X K (some i) (b₀ :: suite) ts sv) (r : SHs X K hn hds l hs) : SHs X K hn (.ExceptHandler (some t) (some n) (b₀ :: suite) pos' :: hds) ((cs.map fun c => .ref (He.ga K c), some i, ts) :: l) ((cs, some i, sv) :: hs)
theorem SHs.mix {X : Cx} {K : PySem.W.Frag} {hn : List Str} {hds : List ExceptHandler} {l : List Hdl} {hs : List XHd} (h : SHs X K hn hds l hs) : HdsMix X hds l := by
  induction h with
  | nil => exact .nil
  | cons hc hin h r ih => exact .cons hc h.2.1 ih
  | as hc hin hi hln h r ih => exact .as hc hi hln h.2.1 ih
theorem xt_any {K : PySem.W.Frag} {xt : XTab} {hn : List Str} (hx : xtB K xt hn = true) {c : Str} {sup : List Str} (hl : xt.lookup c = some sup) : ∀ {cs : List Str}, cs.all (hn.contains ·) = true → PySem.W.exmAny K (.ref (He.ga K c)) (cs.map fun c => .ref (He.ga K c)) = some (cs.any (sup.contains ·)) := by
  have hm : (c, sup) ∈ xt := by
    have : ∀ {l : XTab}, l.lookup c = some sup → (c, sup) ∈ l := by
      intro l
      induction l with
      | nil => intro h; cases h
      | cons p l ih =>
        intro h
        obtain ⟨k, v⟩ := p
        by_cases hk : c = k
        · subst hk
          simp [List.lookup] at h
          subst h
          exact List.mem_cons_self ..
        · have hk' : (c == k) = false := by simpa using hk
          simp only [List.lookup, hk'] at h
          exact List.mem_cons_of_mem _ (ih h)
    exact this hl
  have hp := List.all_eq_true.mp hx _ hm
  intro cs
  induction cs with
  | nil => intro _; rfl
  | cons a cs ih =>
    intro hin
    simp only [List.all_cons, Bool.and_eq_true] at hin
    have h1 : PySem.W.exmOne K (.ref (He.ga K c)) (.ref (He.ga K a)) = some (sup.contains a) := of_decide_eq_true (List.all_eq_true.mp hp a (by simpa using hin.1))
    simp only [List.map_cons, PySem.W.exmAny, h1, ih hin.2, List.any_cons]
section
variable {K : PySem.W.Frag} {E : Ent} {Wo : Wx} {xt : XTab} {hn : List Str} {D : Ends}
theorem Rel.unS {F H : Hp} {al : List Addr} {σ : L2.St} {s : S} (r : Rel K E F al H σ s) (n : Option Nat) (a : Addr) : Rel K E F al H (hdSt σ a n) (unS n s) := by
  cases n with
  | none => exact r
  | some i => exact r.setUn i _
theorem wants_out {F : Hp} {al : List Addr} {n : Option Nat} {o : Ot} (w : Wants K E Wo al F D (outS n o)) : Wants K E W0 al F (hdEnd D n) o := by
  have un : ∀ {F' H' : Hp} {al' : List Addr} {σ' : L2.St} {s' : S} {i : Nat}, Rel K E F' al' H' σ' s' → Rel K E F' al' H' (σ'.set i none) { s' with env := s'.env.set i .un } := fun r => r.setUn _ none
  cases o with
  | no => exact w
  | ex x s => exact (show False from w).elim
  | rt v s => cases n <;> exact w
  | nx s => cases n with
    | none => exact w
    | some i => exact fun F' al' H' σ' r g => (show ∀ (F' : Hp) (al' : List Addr) (H' : Hp) (σ' : L2.St), Rel K E F' al' H' σ' (VI.unS (some i) s) → Gr al F al' F' → D.nx σ' H' from w) F' al' H' _ (un r) g
  | bk s => cases n with
    | none => exact w
    | some i => exact fun F' al' H' σ' r g => (show ∀ (F' : Hp) (al' : List Addr) (H' : Hp) (σ' : L2.St), Rel K E F' al' H' σ' (VI.unS (some i) s) → Gr al F al' F' → D.bk σ' H' from w) F' al' H' _ (un r) g
  | ct s => cases n with
    | none => exact w
    | some i => exact fun F' al' H' σ' r g => (show ∀ (F' : Hp) (al' : List Addr) (H' : Hp) (σ' : L2.St), Rel K E F' al' H' σ' (VI.unS (some i) s) → Gr al F al' F' → D.ct σ' H' from w) F' al' H' _ (un r) g
theorem good_hds {X : Cx} (hx : xtB K xt hn = true) {hds : List ExceptHandler} {l : List Hdl} {hs : List XHd} (h : SHs X K hn hds l hs) : ∀ {x : Xc} {s : S} {al : List Addr} {F : Hp}, Wants K E Wo al F D (tryH xt hs x s) → Wants K E (wMix K Wo D l) al F D (.ex x s) := by
  induction h with
  | nil => exact fun w => w
  | cons hc hin h r ih =>
    rename_i t cs ts sv b₀ suite pos' hds l hs
    intro x s al F w cls d F' al' H' σ' rel gr xr
    have w : Wants K E Wo al F D (match (xt.lookup x.c).map fun sup => cs.any (sup.contains ·) with
      | some true => if okS none s = true then outS none (sv x (unS none s)) else .no
      | some false => tryH xt hs x s
      | none => .no) := w
    cases hl : xt.lookup x.c with
    | none => rw [hl] at w; exact w.elim
    | some sup =>
      rw [hl] at w
      have hm := xt_any hx hl hin
      obtain ⟨e1, _⟩ := id xr
      refine ⟨_, by rw [e1]; exact hm, ?_⟩
      cases hb : cs.any (sup.contains ·) with
      | true =>
        rw [Option.map_some, hb] at w
        refine ⟨fun _ a na => ?_, fun z => nomatch z⟩
        exact h.2.2 a cls d x E F' al' H' _ _ _ (rel.unS none a) ⟨xr, fun i e => nomatch e⟩ ((wants_out w).gr gr)
      | false =>
        rw [Option.map_some, hb] at w
        exact ⟨fun z => (nomatch z), fun _ => ih w cls d F' al' H' σ' rel gr xr⟩
  | as hc hin hi hln h r ih =>
    rename_i t n i cs ts sv b₀ suite pos' hds l hs
    intro x s al F w cls d F' al' H' σ' rel gr xr
    have w : Wants K E Wo al F D (match (xt.lookup x.c).map fun sup => cs.any (sup.contains ·) with
      | some true => if okS (some i) s = true then outS (some i) (sv x (unS (some i) s)) else .no
      | some false => tryH xt hs x s
      | none => .no) := w
    cases hl : xt.lookup x.c with
    | none => rw [hl] at w; exact w.elim
    | some sup =>
      rw [hl] at w
      have hm := xt_any hx hl hin
      obtain ⟨e1, _⟩ := id xr
      refine ⟨_, by rw [e1]; exact hm, ?_⟩
      cases hb : cs.any (sup.contains ·) with
      | true =>
        rw [Option.map_some, hb] at w
        refine ⟨fun _ a na => ?_, fun z => nomatch z⟩
        by_cases ho : okS (some i) s = true
        · have w : Wants K E Wo al F D (if okS (some i) s = true then outS (some i) (sv x (unS (some i) s)) else .no) := w
          rw [if_pos ho] at w
          have hi2 : i < σ'.length := by
            rw [← rel.elen]
            exact of_decide_eq_true ho
          exact h.2.2 a cls d x E F' al' H' _ _ _ (rel.unS (some i) a) ⟨xr, fun j e => by cases e; exact List.getElem?_set_self hi2⟩ ((wants_out w).gr gr)
        · have w : Wants K E Wo al F D (if okS (some i) s = true then outS (some i) (sv x (unS (some i) s)) else .no) := w
          rw [if_neg ho] at w
          exact w.elim
      | false =>
        rw [Option.map_some, hb] at w
        exact ⟨fun z => (nomatch z), fun _ => ih w cls d F' al' H' σ' rel gr xr⟩
end
/-- a context for any wish -/
theorem bx_any {X : Cx} (hs : X.stack = X.env :: X.outer) (hf : X.env.frame = some X.env.locals) (W : Wx) : ∃ xe, Bx (X.tr [] xe) W := by
  refine ⟨fun e s' => wpAny (model X.prog X.w) X.A (noteFrame e X.env) (fun _ _ => True) (fun _ _ => True) s', PassesOwn.looking, fun u s' xx => ?_⟩
  obtain ⟨a, B, sI, pins, σ, H, cls, d, rfl, I, nb, up, sky, na, os, ag, w⟩ := xx
  have hfr : X.A.frames = some (X.env :: X.outer) := by rw [← hs]; exact I.ok.frames
  have sky' : Sky B (X.env :: X.outer) a (Zc cls d) X.env.locals s'.heap := by rw [← hs]; exact sky
  exact wpAny_mono (Sky.land (Q := fun _ _ => True) (E₁ := fun _ _ => True) Zc.steady hfr hf sky' fun h' _ _ => trivial) (fun _ _ _ => trivial) fun _ _ _ => trivial
section
variable {X : Cx} {W : Wx} {K : PySem.W.Frag} {xt : XTab} {hn : List Str} {body : List Stmt} {h₀ : ExceptHandler} {hds : List ExceptHandler} {l : List Hdl} {hs : List XHd} {pos : Pos} {tb : Wx → TS} {sb : Sx}
theorem ss_try (hx : xtB K xt hn = true) (hN : X.N.Nodup) (bx : Bx X W) (hb : ∀ (W' : Wx) (pn : List (Addr × Obj)) (xe : Value → Shared → Prop), Bx (X.tr pn xe) W' → SSs (X.tr pn xe) K W' body (tb W') sb) (hh : SHs X K hn (h₀ :: hds) l hs)
    (hK : X.K = K := by rfl) (hst : X.stack = X.env :: X.outer := by rfl) (hf : X.env.frame = some X.env.locals := by rfl) : SS X K W (.Try body (h₀ :: hds) [] [] pos) (fun D σ H => tb (wMix K W D l) D σ H) (svTry sb xt hs) := by
  subst hK
  refine ⟨rfl, ps_try_mix hst hf hN bx.tk (fun W' pn xe tk po => (hb W' pn xe ⟨po, tk⟩).2.1) hh.mix, fun E F al H σ s D rel w => ?_⟩
  obtain ⟨xe, b⟩ := bx_any (X := X) hst hf (wMix X.K W D l)
  refine (hb _ _ _ b).2.2 E F al H σ s D rel ?_
  have w : Wants X.K E W al F D (match sb s with
    | .ex x s' => tryH xt hs x s'
    | o => o) := w
  cases h : sb s with
  | ex x s' => rw [h] at w; exact good_hds hx hh w
  | nx s' => rw [h] at w; exact w
  | rt v s' => rw [h] at w; exact w
  | bk s' => rw [h] at w; exact w
  | ct s' => rw [h] at w; exact w
  | no => rw [h] at w; exact w
end
end VI
end
section
set_option Elab.async false
set_option linter.all false
set_option maxRecDepth 100000
set_option maxHeartbeats 4000000
/-! V49: containers within containers that stay changeable: cells; repr of lists of such. -/
namespace VI
open PySem PySem.Spec PyProof.Rows L2

/-! ### a new container as a cell -/
def cellF (v : Va) : M Va := fun s => match v with
  | .fr o => .ok (.im (.ref s.st.length)) { s with st := s.st ++ [o] }
  | .im d => .ok (.im d) s
  | .pl _ => .no
def evCell (m : M Va) : M Va := m >>= cellF
theorem se_cell {X : Cx} {K : PySem.W.Frag} {W : Wx} {e : Expr} {te : TE} {ev : M Va} (h : SE X K W e te ev) : SE X K W e te (evCell ev) := by
  obtain ⟨hK, p, g⟩ := h
  refine ⟨hK, p, fun E F al H σ s rel => ?_⟩
  have g := g E F al H σ s rel
  unfold evCell
  rw [M.bind_run]
  cases hm : ev s with
  | no => exact True.intro
  | ex x s1 => rw [hm] at g; exact g
  | ok v s1 =>
    rw [hm] at g
    cases v with
    | pl i => exact True.intro
    | im d => exact g
    | fr o =>
      refine fun Q hQ => g _ fun w F1 al1 H1 rel1 st1 v1 => ?_
      obtain ⟨a, ho, rfl, h1, h2, h3, h4, h5, h6⟩ := v1
      obtain ⟨r2, gr, d⟩ := rel1.mkCell h1 h2 h3 h4 h5
      refine hQ _ F1 (al1 ++ [a]) H1 r2 ⟨⟨st1.ext.f, st1.ext.fn, ?_, st1.ext.keep, st1.ext.live⟩, st1.dec⟩ d
      obtain ⟨l, e, n⟩ := st1.ext.al
      refine ⟨l ++ [a], by rw [e, List.append_assoc], fun x hx => ?_⟩
      rcases List.mem_append.mp hx with hx | hx
      · exact n x hx
      · simp at hx; subst hx; exact h6
section
variable {s : S} {X : Xc → S → Prop} {Q : Va → S → Prop} {m : M Va}
def cellW (v : Va) (s : S) : Option (D × S) := match v with
  | .fr o => some (.ref s.st.length, { s with st := s.st ++ [o] })
  | .im d => some (d, s)
  | .pl _ => none
@[simp] theorem wp_cell : Wp (evCell m) s Q X = Wp m s (fun v s1 => OW (cellW v s1) fun r => Q (.im r.1) r.2) X := by
  unfold evCell
  refine (wp_bind _ _ _).trans (congrArg (fun z => Wp m s z X) (funext fun v => funext fun s1 => ?_))
  cases v <;> rfl
@[simp] theorem cellW_im (d : D) (s : S) : cellW (.im d) s = some (d, s) := rfl
@[simp] theorem cellW_fr (o : Ob) (s : S) : cellW (.fr o) s = some (.ref s.st.length, { s with st := s.st ++ [o] }) := rfl
end

/-! ### what repr reads: lists of data and of cells -/
def scD : D → Option PyData
  | .non => some .none
  | .bl b => some (.bool b)
  | .int i => some (.int i)
  | .str x => some (.str x)
  | _ => none
def scV : V → Option PyData
  | .non => some .none
  | .bl b => some (.bool b)
  | .int i => some (.int i)
  | .str x => some (.str x)
  | _ => none
def keyP : Key → PyData
  | .inl i => .int i
  | .inr x => .str x
def kvD : List (Key × D) → Option (List (PyData × PyData))
  | [] => some []
  | (k, d) :: r => match scD d, kvD r with
    | some p, some ps => some ((keyP k, p) :: ps)
    | _, _ => none
def kvV : List (Key × V) → Option (List (PyData × PyData))
  | [] => some []
  | (k, d) :: r => match scV d, kvV r with
    | some p, some ps => some ((keyP k, p) :: ps)
    | _, _ => none
def obP : Ob → Option PyData
  | .lst xs => (pyDs xs).map .list
  | .dk kvs => (kvD kvs).map .dict
  | _ => none
/-- an item of a list -/
def pyE (st : List Ob) : D → Option PyData
  | .ref i => (st[i]?).bind obP
  | d => pyD d
def pyEs (st : List Ob) : List D → Option (List PyData)
  | [] => some []
  | d :: ds => match pyE st d, pyEs st ds with
    | some p, some ps => some (p :: ps)
    | _, _ => none
inductive RdE (K : PySem.W.Frag) (H : Hp) : V → PyData → Prop
  | of {v : V} {d : PyData} : RdV K H v d → RdE K H v d
  | dict {a : Addr} {kvs : List (Key × V)} {ps : List (PyData × PyData)} : Rd H a (.dK kvs) → kvV kvs = some ps → RdE K H (.ref a) (.dict ps)
inductive RdEL (K : PySem.W.Frag) (H : Hp) : List V → List PyData → Prop
  | nil : RdEL K H [] []
  | cons {v : V} {d : PyData} {vs : List V} {ds : List PyData} : RdE K H v d → RdEL K H vs ds → RdEL K H (v :: vs) (d :: ds)
section
variable {K : PySem.W.Frag} {al : List Addr} {F H : Hp}
theorem sc_dat {d : D} {v : V} {p : PyData} (h : Dat K al F d v) (e : scD d = some p) : scV v = some p := by
  cases h <;> first | exact e | (cases e)
theorem kv_dat : ∀ {kvs : List (Key × D)} {vs : List (Key × V)} {ps : List (PyData × PyData)}, DatK K al F kvs vs → kvD kvs = some ps → kvV vs = some ps
  | _, _, _, .nil, h => h
  | (k, d) :: _, _, _, .cons h1 t, h => by
    unfold kvD at h
    split at h
    · rename_i p ps e1 e2
      cases h
      unfold kvV
      rw [sc_dat h1 e1, kv_dat t e2]
    · cases h
theorem pyE_dat {E : Ent} {σ : L2.St} {s : S} (rel : Rel K E F al H σ s) {d : D} {v : V} {p : PyData} (h : Dat K al F d v) (e : pyE s.st d = some p) : RdE K H v p := by
  cases h with
  | ref h =>
    rename_i i a
    have e : (s.st[i]?).bind obP = some p := e
    cases ho : s.st[i]? with
    | none => rw [ho] at e; cases e
    | some o =>
      rw [ho, Option.bind_some] at e
      obtain ⟨_, hob, h2, h3⟩ := rel.cell i a o h ho
      cases o with
      | lst xs =>
        cases hob <;> first | exact h3.elim | skip
        obtain ⟨l, _⟩ := (show _ ∧ _ from h3)
        have e : (pyDs xs).map .list = some p := e
        cases hq : pyDs xs with
        | none => rw [hq] at e; cases e
        | some ps => rw [hq] at e; cases e; exact .of (.lst (.of h2) (pyDs_dat rel.sub l hq))
      | dk xs =>
        cases hob <;> first | exact h3.elim | skip
        have e : (kvD xs).map .dict = some p := e
        cases hq : kvD xs with
        | none => rw [hq] at e; cases e
        | some ps => rw [hq] at e; cases e; exact .dict (.inl h2) (kv_dat h3 hq)
      | dt xs => cases e
      | ins c xs => cases e
  | non => exact .of (pyD_dat (al := al) rel.sub .non e)
  | bl b => exact .of (pyD_dat (al := al) rel.sub (.bl b) e)
  | int i => exact .of (pyD_dat (al := al) rel.sub (.int i) e)
  | str x => exact .of (pyD_dat (al := al) rel.sub (.str x) e)
  | ty n => exact .of (pyD_dat (al := al) rel.sub (.ty n) e)
  | lst h1 h2 h3 => exact .of (pyD_dat (al := al) rel.sub (.lst h1 h2 h3) e)
  | lz h1 h2 h3 => exact .of (pyD_dat (al := al) rel.sub (.lz h1 h2 h3) e)
  | tup h1 h2 h3 => exact .of (pyD_dat (al := al) rel.sub (.tup h1 h2 h3) e)
  | tz h1 h2 h3 => exact .of (pyD_dat (al := al) rel.sub (.tz h1 h2 h3) e)
  | dk h1 h2 => exact .of (pyD_dat (al := al) rel.sub (.dk h1 h2) e)
  | dt h1 h2 => exact .of (pyD_dat (al := al) rel.sub (.dt h1 h2) e)
  | ins h1 h2 => exact .of (pyD_dat (al := al) rel.sub (.ins h1 h2) e)
  | fn x => exact .of (pyD_dat (al := al) rel.sub (.fn x) e)
theorem pyEs_dat {E : Ent} {σ : L2.St} {s : S} (rel : Rel K E F al H σ s) : ∀ {ds : List D} {vs : List V} {ps : List PyData}, DatL K al F ds vs → pyEs s.st ds = some ps → RdEL K H vs ps
  | _, _, _, .nil, h => by cases h; exact .nil
  | _, _, _, .cons h1 t, h => by
    unfold pyEs at h
    split at h
    · rename_i x xs e1 e2
      cases h
      exact .cons (pyE_dat rel h1 e1) (pyEs_dat rel t e2)
    · cases h
mutual
theorem rdV_no {v : V} {d : PyData} : RdV K H v d → d.hasDict = false
  | .non => by simp [PyData.hasDict]
  | .bl _ => by simp [PyData.hasDict]
  | .int _ => by simp [PyData.hasDict]
  | .str _ => by simp [PyData.hasDict]
  | .lst _ l => by simp only [PyData.hasDict]; exact rdVL_no l
  | .tup _ l => by simp only [PyData.hasDict]; exact rdVL_no l
theorem rdVL_no {vs : List V} {ds : List PyData} : RdVL K H vs ds → PyData.hasDictAll ds = false
  | .nil => by simp [PyData.hasDictAll]
  | .cons h t => by simp only [PyData.hasDictAll, rdV_no h, rdVL_no t, Bool.or_self]
end
end
section
variable {X : Cx} {pins : List (Addr × Obj)} {σ : L2.St} {H : Hp} {s : Shared}
theorem pairs_reads {h : Heap} : ∀ {es : List DictEntry} {kvs : List (Key × Value)} {vs : List (Key × V)} {ps : List (PyData × PyData)}, Pairs (mixKind X.prog X.w) es kvs → KV vs kvs → kvV vs = some ps → ReadsAll h (es.map (·.key)) (ps.map (·.1)) [] ∧ ReadsAll h (es.map (·.val)) (ps.map (·.2)) []
  | _, _, _, _, .nil, r, e => by cases r; cases e; exact ⟨.nil, .nil⟩
  | _, _, _, _, .cons (e := en) (kv := kv) hk hv t, r, e => by
    cases r with
    | @cons p _ pl _ r1 r2 =>
      obtain ⟨pk, pv⟩ := p
      unfold kvV at e
      split at e
      · rename_i y ys e1 e2
        cases e
        obtain ⟨q1, q2⟩ := pairs_reads t r2 e2
        obtain ⟨r1, rv⟩ := r1
        have hk : keyIs kv.1 en.key = true := hk
        have k1 : Reads h en.key (keyP pk) [] := by
          have r1 : pk = kv.1 := r1
          rw [r1]
          rcases keyIs_shape hk with ⟨i, t, e3, e4⟩ | ⟨x, t, e3, e4⟩
          · rw [e3, e4]; exact .int i t
          · rw [e3, e4]; exact .str x t
        have k2 : Reads h en.val y [] := by
          rw [hv]
          have rv : RelV pv kv.2 := rv
          cases pv with
          | non => cases e1; rw [show kv.2 = Value.none from rv]; exact .none
          | bl b => cases e1; rw [show kv.2 = Value.bool b from rv]; exact .bool b
          | int i => cases e1; obtain ⟨t, rv⟩ := (show ∃ t, _ from rv); rw [rv]; exact .int i t
          | str x => cases e1; obtain ⟨t, rv⟩ := (show ∃ t, _ from rv); rw [rv]; exact .str x t
          | _ => cases e1
        exact ⟨ReadsAll.cons (as := []) (bs := []) k1 q1, ReadsAll.cons (as := []) (bs := []) k2 q2⟩
      · cases e
theorem reprE (I : Inv X pins σ H s) {v : V} {d : PyData} {u : Value} (h : RdE X.K H v d) (r : RelV v u) (hs : d.showable = true) (hz : d.shown.length ≤ sizeLine) : ∃ bs, ReadAtMost s.heap d.depth bs ∧ ReprK X.prog X.w bs s.heap d.depth u d.shown := by
  cases h with
  | of h =>
    obtain ⟨as, hr⟩ := reads_of I h r
    exact ReprK.of_reads hr hs (PyData.noDict_hsm (rdV_no h)) hz
  | dict h1 h2 =>
    cases r
    rename_i a kvs ps
    obtain ⟨_, hsm, xs, kv, o, es, ep, ho, ex, hd, _, pr, _⟩ := dk_rd I.hok h1
    obtain ⟨q1, q2⟩ := pairs_reads (X := X) (h := s.heap) pr kv h2
    have rr : Reads s.heap (.ref a) (.dict ps) (a :: [] ++ []) := .dict ho ex.1 hd q1 q2
    refine ReprK.of_reads rr hs (fun _ hm => ?_) hz
    simp at hm
    rw [hm] at hsm
    simp at hsm
theorem reprEs (I : Inv X pins σ H s) : ∀ {vs : List V} {ds : List PyData} {us : List Value}, RdEL X.K H vs ds → Vals vs us → PyData.showableAll ds = true → (∀ t ∈ PyData.shownAll ds, t.length ≤ sizeLine) →
    ∃ bs, ReadAtMost s.heap (PyData.depthAll ds) bs ∧ ReprAllK X.prog X.w bs s.heap (PyData.depthAll ds) us (PyData.shownAll ds)
  | _, _, _, .nil, r, _, _ => by cases r; exact ⟨[], (fun _ h => nomatch h), by simp only [PyData.shownAll]; exact .nil⟩
  | _, _, _, .cons (d := d) (ds := ds) h t, r, hs, hz => by
    cases r with
    | cons r1 r2 =>
      have hs' : d.showable = true ∧ PyData.showableAll ds = true := by simpa [PyData.showableAll] using hs
      obtain ⟨b1, hb1, k1⟩ := reprE I h r1 hs'.1 (hz _ (by simp only [PyData.shownAll]; exact List.mem_cons_self ..))
      obtain ⟨b2, hb2, k2⟩ := reprEs I t r2 hs'.2 fun t ht => hz t (by simp only [PyData.shownAll]; exact List.mem_cons_of_mem _ ht)
      refine ⟨b1 ++ b2, fun b hm => ?_, ?_⟩
      · simp only [PyData.depthAll]
        rcases List.mem_append.mp hm with hm | hm
        · obtain ⟨d', as', r', hd'⟩ := hb1 b hm
          exact ⟨d', as', r', Nat.le_trans hd' (Nat.le_max_left _ _)⟩
        · obtain ⟨d', as', r', hd'⟩ := hb2 b hm
          exact ⟨d', as', r', Nat.le_trans hd' (Nat.le_max_right _ _)⟩
      · simp only [PyData.depthAll, PyData.shownAll]
        exact .cons ((k1.more fun b hb => List.mem_append_left _ hb).level_le (Nat.le_max_left _ _)) (k2.more_le (fun b hb => List.mem_append_right _ hb) (Nat.le_max_right _ _))
theorem readsE (I : Inv X pins σ H s) {v : V} {d : PyData} {u : Value} (h : RdE X.K H v d) (r : RelV v u) : ∃ as, Reads s.heap u d as := by
  cases h with
  | of h => exact reads_of I h r
  | dict h1 h2 =>
    cases r
    obtain ⟨_, hsm, xs, kv, o, es, ep, ho, ex, hd, _, pr, _⟩ := dk_rd I.hok h1
    obtain ⟨q1, q2⟩ := pairs_reads (X := X) (h := s.heap) pr kv h2
    exact ⟨_, .dict ho ex.1 hd q1 q2⟩
theorem readsEs (I : Inv X pins σ H s) : ∀ {vs : List V} {ds : List PyData} {us : List Value}, RdEL X.K H vs ds → Vals vs us → ∃ as, ReadsAll s.heap us ds as
  | _, _, _, .nil, r => by cases r; exact ⟨_, .nil⟩
  | _, _, _, .cons h t, r => by
    cases r with
    | cons r1 r2 =>
      obtain ⟨as, z⟩ := readsE I h r1
      obtain ⟨bs, z2⟩ := readsEs I t r2
      exact ⟨_, .cons z z2⟩
/-- repr of a list of such -/
theorem repr_list (I : Inv X pins σ H s) {a : Addr} {vs : List V} {ds : List PyData} {Q : Value → Shared → Prop} (h1 : SqL X.K H a vs) (h : RdEL X.K H vs ds) (hs : (PyData.list ds).showable = true) (hz : (PyData.list ds).shown.length ≤ sizeLine) (hd : (PyData.list ds).depth ≤ 60) (hg : X.A.guards = some []) (hu : X.A.units + 64 < cLine)
    (hQ : ∀ h' u tk, (∀ b o, s.heap.get? b = some o → h'.get? b = some o) → Q (.str (PyData.list ds).shown u) { s with heap := h', toks := tk }) : wpAny (model X.prog X.w) X.A (call (.builtin "repr") [.ref a]) Q X.xe s := by
  obtain ⟨its, rv, ⟨o, n, e, e1, _, e3⟩, _⟩ := I.list h1
  have hz' : (listText (PyData.shownAll ds)).length ≤ sizeLine := by simpa only [PyData.shown] using hz
  obtain ⟨bs, hb, hk⟩ := reprEs I h rv (by simpa [PyData.showable] using hs) fun t ht => Nat.le_trans (listText_mem_le ht) hz'
  obtain ⟨as, ra⟩ := readsEs I h rv
  have hna : a ∉ bs := not_mem_of_deeper (.list e e1 e3 ra) (by simp only [PyData.depth]; omega) hb
  simp only [PyData.depth] at hd
  simp only [PyData.shown] at hQ
  refine call_repr_slot (by omega) ⟨o, e, e1⟩ F.slot_list_repr.toG ?_
  cases its with
  | nil =>
    cases ra
    simp only [PyData.shownAll, listText_nil] at hQ
    exact call_list_repr_empty ⟨o, e, e1⟩ e e3 ⟨_, _, rfl, hQ s.heap _ _ fun _ _ e => e⟩
  | cons x l =>
    exact call_list_reprK (A := X.A.in1) e e1 e3 hna (by simpa using hk.length_eq) (fun i y e => hk.item i y (by simpa using e)) hg (fun b _ => Clear.nil b) (by show X.A.units + 1 + (PyData.depthAll ds + 1) < cLine; omega) (fun _ _ z => z) (fun h' u tk hk => ⟨_, _, rfl, hQ h' u tk hk⟩) hz'
end
def reprOk2 (d : PyData) : Bool := d.showable && (decide (d.depth ≤ 60) && decide (d.shown.length ≤ sizeLine))
theorem reprOk2_ok {d : PyData} (h : reprOk2 d = true) : d.showable = true ∧ d.depth ≤ 60 ∧ d.shown.length ≤ sizeLine := by
  unfold reprOk2 at h
  simp only [Bool.and_eq_true, decide_eq_true_eq] at h
  exact h
/-- repr, of a list whose items may be cells -/
def fReprS (st : List Ob) : List D → Option Va
  | [.lst xs] => match pyEs st xs with
    | some ds => if reprOk2 (.list ds) = true then some (.im (.str (PyData.list ds).shown)) else none
    | none => none
  | ps => fRepr ps
def evReprS (m : M (List Va)) : M Va := m >>= fun vas s => match (rdAll s vas).bind (fReprS s.st) with
  | some v => .ok v s
  | none => .no
def rReprS (K : PySem.W.Frag) : List V → Hp → VK → Prop := fun xs H Q => (∃ a vs ds, xs = [.ref a] ∧ SqL K H a vs ∧ RdEL K H vs ds ∧ reprOk2 (.list ds) = true ∧ Q (.str (PyData.list ds).shown) H) ∨ rReprX K xs H Q
section
variable {X : Cx} {W : Wx} {K : PySem.W.Frag} {x : Str} {p pos : Pos} {a : Expr} {th : TA} {m : M (List Va)} {k : Nat}
theorem call_reprS (hr : VI.Room k X.A) : CallR X (.builtin "repr") (rReprS X.K) := by
  refine CallR.or ?_ (call_reprX hr)
  intro pins s σ H vs us Q I r h
  obtain ⟨b, ws, ds, rfl, h1, h2, ok, q⟩ := h
  obtain ⟨k1, k3, k4⟩ := reprOk2_ok ok
  obtain ⟨u, rfl, ru⟩ := vals1 r
  obtain rfl : u = Value.ref b := ru
  have hun := hr.un
  exact repr_list I h1 h2 k1 k4 k3 hr.gd (by omega) fun h' u tk hk => ⟨.str _, H, I.kept (t' := tk) hk, ⟨_, rfl⟩, q⟩
theorem good_reprS (ga : GoodV K W th m) : GoodE K W (tCB (rReprS K) th) (evReprS m) := fun E F al H σ s rel => by
  refine Sat.bind (u := fun vs H1 Q => rReprS K vs H1 Q) VR.low (ga E F al H σ s rel) fun vas s1 ws F1 al1 H1 _ rel1 st1 v1 => ?_
  show Sat K E W (VR K E σ) F1 al1 H1 σ s1 _ (match (rdAll s1 vas).bind (fReprS s1.st) with
    | some v => .ok v s1
    | none => .no)
  cases hr : rdAll s1 vas with
  | none => exact True.intro
  | some ps =>
    show Sat K E W (VR K E σ) F1 al1 H1 σ s1 _ (match fReprS s1.st ps with
      | some v => .ok v s1
      | none => .no)
    cases hf : fReprS s1.st ps with
    | none => exact True.intro
    | some va =>
      have rr := rdAll_ok rel1 v1 hr
      unfold fReprS at hf
      split at hf
      · rename_i xs
        split at hf
        · rename_i ds hd
          split at hf
          · rename_i ok
            cases hf
            refine fun Q hQ => .inl ?_
            obtain ⟨w, rfl, r⟩ := rr.one
            obtain ⟨b, vs, e, h1, l, z⟩ := r.lst rel1.sub
            subst e
            exact ⟨b, vs, ds, rfl, .of h1, pyEs_dat rel1 l hd, ok, fin_d rel1 (.str _) hQ⟩
          · cases hf
        · cases hf
      · exact fun Q hQ => .inr (bls_repr E F1 al1 H1 σ s1 ws _ va rel1 rr hf Q hQ)
theorem se_reprS (hr : VI.Room k X.A) (hm : X.mg "repr" = none) (ha : SV X K W [a] th m) (hx : x = ("repr" : Str) := by rfl) (hg : Gl X "repr" := by rfl) (he : starEach [a] X.env = [(false, eval a X.env)] := by rfl) : SE X K W (.Call (.Name x p) [a] [] pos) (tCB (rReprS K) th) (evReprS m) := by
  subst hx
  obtain ⟨rfl, pa, ga⟩ := ha
  exact ⟨rfl, pe_callB (call_reprS hr) hg hm PyProof.Rows.boot_repr pa (by decide) (by decide) he rfl, good_reprS ga⟩
variable {s : S} {XX : Xc → S → Prop} {Q : Va → S → Prop}
@[simp] theorem wp_reprS : Wp (evReprS m) s Q XX = Wp m s (fun vs s1 => OW (rdAll s1 vs) fun ps => OW (fReprS s1.st ps) fun v => Q v s1) XX := by
  unfold evReprS
  refine (wp_bind _ _ _).trans (congrArg (fun z => Wp m s z XX) (funext fun vs => funext fun s1 => ?_))
  unfold Wp
  try dsimp only
  cases rdAll s1 vs with
  | none => rfl
  | some ps => simp only [Option.bind_some, ow_some]; cases fReprS s1.st ps <;> rfl
end
end VI
end
section
set_option Elab.async false
set_option linter.all false
set_option maxRecDepth 100000
set_option maxHeartbeats 4000000
/-! V50: dict displays; what is to be shown of raise, try; facts about exception classes. -/
namespace VI
open PySem PySem.Spec PyProof.Rows L2 NdefX

/-! ### {k: e, ..}, the keys written texts -/
def evPn : M (List (Key × D)) := pure []
def evPc (k : Key) (m : M Va) (r : M (List (Key × D))) : M (List (Key × D)) := (m >>= esc) >>= fun d => r >>= fun ds => pure ((k, d) :: ds)
def dictF (ds : List (Key × D)) : M Va := fun s => if ds.length ≤ 15 then .ok (.fr (.dk (ds.foldl (fun acc kv => putE acc kv.1 kv.2) []))) s else .no
def evDict (r : M (List (Key × D))) : M Va := r >>= dictF
abbrev PRl (K : PySem.W.Frag) : Hp → List Addr → Hp → Hp → S → List (V × V) → List (Key × D) → Prop := fun _ al F _ _ ps ds => ∃ kvs : List (Key × V), ps = kvs.map (fun kv => (kV kv.1, kv.2)) ∧ DatK K al F ds kvs
theorem PRl.low {K : PySem.W.Frag} : Low (PRl K) := fun _ _ _ _ _ _ _ _ _ r => r
def SPd (X : Cx) (K : PySem.W.Frag) (W : Wx) (pos : Pos) (ks : List (Option Expr)) (vs : List Expr) (trs : List (TE × TE)) (ev : M (List (Key × D))) : Prop := X.K = K ∧ PPs X pos ks vs trs ∧ (∀ (E : Ent) (F : Hp) (al : List Addr) (H : Hp) (σ : L2.St) (s : S), Rel K E F al H σ s → Sat K E W (PRl K) F al H σ s (tPairs trs σ H) (ev s))
section
variable {X : Cx} {K : PySem.W.Frag} {W : Wx} {pos : Pos} {ks : List (Option Expr)} {vs : List Expr} {trs : List (TE × TE)} {evs : M (List (Key × D))}
theorem sp_nil (hK : X.K = K := by rfl) : SPd X K W pos [] [] [] evPn := ⟨hK, pps_nil, fun E F al H σ s rel => fun Q hQ => hQ [] F al H rel .refl ⟨[], rfl, .nil⟩⟩
theorem sp_str {z : Str} {j : _} {p : Pos} {e : Expr} {te : TE} {ev : M Va} (he : SE X K W e te ev) (hr : SPd X K W pos ks vs trs evs) : SPd X K W pos (some (.Constant (.str z) j p) :: ks) (e :: vs) ((tC (.str z), te) :: trs) (evPc (.inr z) ev evs) := by
  obtain ⟨rfl, pe, ge⟩ := he
  obtain ⟨_, pr, gr⟩ := hr
  refine ⟨rfl, pps_cons pe_str pe pr, fun E F al H σ s rel => ?_⟩
  refine Sat.bind (u := fun y H1 Q => tPairs trs σ H1 fun ps H2 => Q ((V.str z, y) :: ps) H2) PRl.low (ge E F al H σ s rel).esc fun d s1 w1 F1 al1 H1 _ rel1 st1 v1 => ?_
  refine Sat.bind (u := fun ps H2 Q => Q ((V.str z, w1) :: ps) H2) PRl.low (gr E F1 al1 H1 σ s1 rel1) fun ds s2 w2 F2 al2 H2 _ rel2 st2 v2 => ?_
  obtain ⟨kvs, e2, q⟩ := v2
  subst e2
  exact fun Q hQ => hQ _ F2 al2 H2 rel2 .refl ⟨(.inr z, w1) :: kvs, rfl, .cons (v1.mono st2.gr) q⟩
theorem merge_dat {al : List Addr} {F : Hp} : ∀ (ds : List (Key × D)) {kvs : List (Key × V)} {as : List (Key × D)} {bs : List (Key × V)}, DatK K al F ds kvs → DatK K al F as bs → DatK K al F (ds.foldl (fun acc kv => putE acc kv.1 kv.2) as) (mergeK bs kvs) := by
  intro ds
  induction ds with
  | nil => intro kvs as bs h g; cases h; exact g
  | cons p ds ih =>
    intro kvs as bs h g
    cases h with
    | cons q t =>
      rename_i k d v us
      have h2 := ih t (g.put k q)
      exact h2
theorem se_disp (h : SPd X K W pos ks vs trs evs) (hall : ks.all (·.isSome) = true := by rfl) (hl : ks.length = vs.length := by rfl) (h0 : ks ≠ [] := by simp) (h15 : ks.length ≤ 15 := by decide) : SE X K W (.Dict ks vs pos) (tDisp trs) (evDict evs) := by
  obtain ⟨rfl, pp, gp⟩ := h
  refine ⟨rfl, pe_disp pp hall hl h0 h15, fun E F al H σ s rel => ?_⟩
  unfold evDict
  rw [M.bind_run]
  have fresh : ∀ {p : Addr}, H p = none → ¬ Own s.env σ p := fun {p} hp ⟨i, b, o, q1, q2⟩ => by
    obtain ⟨a, ho, e, z1, z2, z3, z4⟩ := rel.env i _ _ q1 q2
    cases e
    rw [hp] at z3; cases z3
  cases hm : evs s with
  | no => exact True.intro
  | ex x s1 =>
    refine fun Q hQ => fun p hp => ?_
    have g := gp E F al (upd H p (.dK [])) σ s (rel.new0 hp)
    rw [hm] at g
    exact g _ fun cls d F' al' H' r st xr => hQ cls d F' al' H' r ((Stp.new0 hp).trans st) xr
  | ok ds s1 =>
    show Sat X.K E W (VR X.K E σ) F al H σ s _ (if ds.length ≤ 15 then .ok (.fr (.dk (ds.foldl (fun acc kv => putE acc kv.1 kv.2) []))) s1 else .no)
    by_cases hz : ds.length ≤ 15
    · rw [if_pos hz]
      refine fun Q hQ => fun p hp => ?_
      have g := gp E F al (upd H p (.dK [])) σ s (rel.new0 hp)
      rw [hm] at g
      refine g _ fun ps F2 al2 H2 r2 st v => ?_
      obtain ⟨kvs, e, q⟩ := v
      have hF : F p = none := rel.sub.free hp
      have n1 : F2 p = none := by
        cases z : F2 p with
        | none => rfl
        | some u =>
          rcases st.ext.fn _ _ z with y | y | ⟨i, o, q1, q2⟩
          · rw [hF] at y; cases y
          · rw [upd_same] at y; cases y
          · exact (fresh hp ⟨i, _, o, q1, q2⟩).elim
      have n2 : ¬ Tch al2 s1.env σ p := by
        rintro (hm2 | ho)
        · obtain ⟨l, e3, n⟩ := st.ext.al
          rw [e3] at hm2
          rcases List.mem_append.mp hm2 with y | y
          · exact (rel.cellH y).2 hp
          · have := n p y
            rw [upd_same] at this; cases this
        · exact fresh hp (st.dec.own ho)
      have n3 : E.H p = none := (rel.fresh hp).2.2
      have hT : ¬ Tch al s.env σ p := (rel.fresh hp).2.1
      refine ⟨st.ext.keep _ _ upd_same hT, kvs, e, by rw [← DatK.length q]; exact hz, ?_⟩
      have r3 := r2.putFree (o := .dK (mergeK [] kvs)) n1 n2 n3
      have x1 : Ext (Tch al s.env σ) (Own0 s.env σ) F al H F2 al2 H2 := (Stp.new0 (σ := σ) (s := s) (F := F) (al := al) (o := .dK []) hp).trans st |>.ext
      have x2 : Ext (Tch al s.env σ) (Own0 s.env σ) F al H F2 al2 (upd H2 p (.dK (mergeK [] kvs))) := x1.trans (Ext.put (T := (· = p)) (Z := fun _ => False) rfl) (fun x hx => .inr (by rw [hx]; exact hp)) (fun _ z => z.elim)
      exact hQ _ F2 al2 _ r3 ⟨x2, st.dec⟩ ⟨p, _, rfl, n1, upd_same, merge_dat _ q .nil, n2, n3, hp⟩
    · rw [if_neg hz]
      exact True.intro
end
/-! ### what is to be shown -/
section
variable {s : S} {nx bk ct : S → Prop} {rt : Va → S → Prop} {ex : Xc → S → Prop} {X : Xc → S → Prop} {Q : Va → S → Prop}
@[simp] theorem wp_pn {R : List (Key × D) → S → Prop} : Wp evPn s R X = R [] s := rfl
@[simp] theorem wp_pc (k : Key) (m : M Va) (r : M (List (Key × D))) {R : List (Key × D) → S → Prop} : Wp (evPc k m r) s R X = Wp m s (fun v s1 => Wp (esc v) s1 (fun d s2 => Wp r s2 (fun ds s3 => R ((k, d) :: ds) s3) X) X) X := by unfold evPc; simp
@[simp] theorem wp_dict (r : M (List (Key × D))) : Wp (evDict r) s Q X = Wp r s (fun ds s1 => ds.length ≤ 15 ∧ Q (.fr (.dk (ds.foldl (fun acc kv => putE acc kv.1 kv.2) []))) s1) X := by
  unfold evDict
  refine (wp_bind _ _ _).trans (congrArg (fun z => Wp r s z X) (funext fun ds => funext fun s1 => ?_))
  unfold Wp dictF
  try dsimp only
  by_cases h : ds.length ≤ 15 <;> simp [h]
@[simp] theorem ws_raise (c f1 : Str) (fr : List Str) (m : M (List D)) : WpS (svRaise c f1 fr m s) nx rt bk ct ex = Wp m s (fun ds s1 => (ds.length = fr.length + 1 ∧ ds.length ≤ 1000) ∧ ex ⟨c, xfl f1 fr ds⟩ s1) ex := by
  unfold svRaise
  rw [ws_let]
  refine congrArg (fun z => Wp m s z ex) (funext fun ds => funext fun s1 => ?_)
  by_cases h : ds.length = fr.length + 1 ∧ ds.length ≤ 1000
  · rw [if_pos h]; exact propext ⟨fun z => ⟨h, z⟩, fun z => z.2⟩
  · rw [if_neg h]; exact propext ⟨fun z => z.elim, fun z => h z.1⟩
theorem ws_try (body : Sx) (xt : XTab) (hs : List XHd) : WpS (svTry body xt hs s) nx rt bk ct ex = WpS (body s) nx rt bk ct (fun x s' => WpS (tryH xt hs x s') nx rt bk ct ex) := by
  unfold svTry
  cases h : body s <;> rfl
/-- a suite that returns an expression -/
def svXRet (ev : Xc → M Va) : Xc → Sx := fun x => svLet (ev x) fun v s => match v with
  | .im d => .rt (.im d) s
  | .fr o => .rt (.fr o) s
  | .pl _ => .no
def plain : Va → Bool
  | .pl _ => false
  | _ => true
@[simp] theorem ws_xret (ev : Xc → M Va) (x : Xc) : WpS (svXRet ev x s) nx rt bk ct ex = Wp (ev x) s (fun v s1 => plain v = true ∧ rt v s1) ex := by
  unfold svXRet
  rw [ws_let]
  refine congrArg (fun z => Wp (ev x) s z ex) (funext fun v => funext fun s1 => ?_)
  cases v <;> simp [plain, WpS]
@[simp] theorem wp_xf (cs : List Str) (f : Str) (x : Xc) : Wp (evXf cs f x) s Q X = (cs.contains x.c = true ∧ OW (x.fs.lookup f) fun v => Q (.im v) s) := by
  unfold Wp evXf
  by_cases h : cs.contains x.c = true
  · simp only [h, if_true, true_and]
    cases x.fs.lookup f <;> rfl
  · rw [if_neg h]; exact propext ⟨fun z => z.elim, fun z => h z.1⟩
end
theorem sxs_ret1 {X : Cx} {K : PySem.W.Frag} {n : Option Nat} {e : Expr} {te : TEx} {ev : Xc → M Va} {pos : Pos} (h : SXE X K n e te ev) : SXS X K n [.Return (some e) pos] (fun a cls d => tRet (te a cls d)) (svXRet ev) := sxs_ret h
/-! ### facts -/
def xcB (K : PySem.W.Frag) (c : Str) (B n : String) (bm : List Value) : Bool := PySem.W.excInitIn K (He.ga K c) bm n && (PySem.W.excOver K (He.ga K c) bm && (He.eqO (PySem.W.findIn K (.ref (He.ga K c)) "__setattr__") (some (some (.builtin "object.__setattr__"))) && (decide (PySem.W.subIn K (.ref (He.ga K c)) (.type B) = some true) &&
  (decide (PySem.W.subIn K (.ref (He.ga K c)) (.type "BaseException") = some true) && (decide (PySem.W.typeIn K (.ref (He.ga K c)) = some (.type "type")) && (PySem.W.hasDictIn K (He.ga K c) && PySem.W.keepIn K (.ref (He.ga K c))))))))
theorem xc_of {K : PySem.W.Frag} {c : Str} {B n i : String} {bm : List Value} (x : XB B n i bm) (h : xcB K c B n bm = true) : XC K (He.ga K c) B n i bm := by
  obtain ⟨h1, h⟩ := He.ba h
  obtain ⟨h2, h⟩ := He.ba h
  obtain ⟨h3, h⟩ := He.ba h
  obtain ⟨h4, h⟩ := He.ba h
  obtain ⟨h5, h⟩ := He.ba h
  obtain ⟨h6, h⟩ := He.ba h
  obtain ⟨h7, h8⟩ := He.ba h
  exact ⟨x, h1, h2, He.eqO_ok h3, of_decide_eq_true h4, of_decide_eq_true h5, of_decide_eq_true h6, h7, h8⟩
def xiB (K : PySem.W.Frag) (file c : Str) (i : String) (fs : List Str) : Bool := ccB K (ccAt K (c, some "__init__")) (He.ga K c) && (codeB K (c, some "__init__") file && ((PySem.W.clsIn K (He.ga K c)).isSome && (He.eqO (PySem.W.nsIn K cStatics "thirdparty.any") (some none) &&
  (decide (PySem.W.mroIn K (He.ga K c) (.ref (He.ga K c)) = some true) && (He.eqO (PySem.W.ks_superIn K (He.ga K c) (He.ga K c) "__init__") (some (some (.builtin i))) && (He.eqO (PySem.W.findIn K (.ref (He.ga K c)) "__init__") (some (some (.ref (He.fAd K (c, some "__init__"))))) &&
  (decide (PySem.W.typeIn K (.ref (He.fAd K (c, some "__init__"))) = some (.type "function")) && fs.all fun f => He.eqO (PySem.W.takerIn K (He.ga K c) f) (some none))))))))
structure XiF (K : PySem.W.Frag) (file c : Str) (i : String) (fs : List Str) : Prop where
  cc : ccB K (ccAt K (c, some "__init__")) (He.ga K c) = true
  code : codeB K (c, some "__init__") file = true
  cls : (PySem.W.clsIn K (He.ga K c)).isSome = true
  stat : PySem.W.nsIn K cStatics "thirdparty.any" = some none
  sup : XSup K (He.ga K c) (He.ga K c) i
  init : PySem.W.findIn K (.ref (He.ga K c)) "__init__" = some (some (.ref (He.fAd K (c, some "__init__"))))
  ty : PySem.W.typeIn K (.ref (He.fAd K (c, some "__init__"))) = some (.type "function")
  tk : ∀ f ∈ fs, PySem.W.takerIn K (He.ga K c) f = some none
theorem xi_of {K : PySem.W.Frag} {file c : Str} {i : String} {fs : List Str} (h : xiB K file c i fs = true) : XiF K file c i fs := by
  obtain ⟨h1, h⟩ := He.ba h
  obtain ⟨h2, h⟩ := He.ba h
  obtain ⟨h3, h⟩ := He.ba h
  obtain ⟨h4, h⟩ := He.ba h
  obtain ⟨h5, h⟩ := He.ba h
  obtain ⟨h6, h⟩ := He.ba h
  obtain ⟨h7, h⟩ := He.ba h
  obtain ⟨h8, h9⟩ := He.ba h
  exact ⟨h1, h2, h3, He.eqO_ok h4, ⟨of_decide_eq_true h5, He.eqO_ok h6⟩, He.eqO_ok h7, of_decide_eq_true h8, fun f hf => He.eqO_ok (List.all_eq_true.mp h9 f hf)⟩
/-- fields of caught exceptions may be read -/
def xfsB (K : PySem.W.Frag) (cs : List Str) (f : Str) : Bool := cs.all fun c => xfB K (He.ga K c) && He.eqO (PySem.W.findIn K (.ref (He.ga K c)) f) (some none)
theorem xfs_of {K : PySem.W.Frag} {cs : List Str} {f : Str} (h : xfsB K cs f = true) : ∀ c ∈ cs, XfC K (He.ga K c) ∧ PySem.W.findIn K (.ref (He.ga K c)) f = some none := fun c hc => by
  obtain ⟨h1, h2⟩ := He.ba (List.all_eq_true.mp h c hc)
  exact ⟨xfB_ok h1, He.eqO_ok h2⟩
end VI
end
section
set_option Elab.async false
set_option linter.all false
set_option maxRecDepth 100000
set_option maxHeartbeats 4000000
/-! V51: a dict == a text. -/
namespace VI
open PySem PySem.Spec PyProof.Rows L2 PySem.SeqAt

theorem dict_declines_str (l : Addr) (es : Array DictEntry) (n : Nat) (dd : Option Addr) (sl : Array (Option Value)) (b : Str) (u : Tok) :
    Meets (Builtin.«dict.__eq__» ⟨[.ref l, .str b u], []⟩) (fun _ R s => s.heap.get? l = some { cls := .type "dict", dict := dd, data := .dict es n, slots := sl } ∧ R (.ok (.ret .notImplemented)) s) :=
  .of_wp fun prog w A R s h => by obtain ⟨hp, g, d, tk, os⟩ := s; obtain ⟨hl, h⟩ := h; have f1 := PySem.F.sub_str_dict; wp_walk using wpAny_loadPart' hl; exact ⟨_, rfl, h⟩
theorem str_declines_dict (b : Str) (u : Tok) (l : Addr) (c : Value) (es : Array DictEntry) (n : Nat) (dd : Option Addr) (sl : Array (Option Value)) :
    Meets (Builtin.«str.__eq__» ⟨[.str b u, .ref l], []⟩) (fun _ R s => s.heap.get? l = some { cls := c, dict := dd, data := .dict es n, slots := sl } ∧ R (.ok (.ret .notImplemented)) s) :=
  .of_wp fun prog w A R s h => by obtain ⟨hp, g, d, tk, os⟩ := s; obtain ⟨hl, h⟩ := h; wp_walk using wpAny_loadPart' hl, wpAny_load hl; exact ⟨_, rfl, h⟩

theorem rcAt_dict_str {A : Around} {s : Shared} {l : Addr} {es : Array DictEntry} {n : Nat} {dd : Option Addr} {sl : Array (Option Value)} (b : Str) (u : Tok) (hl : s.heap.get? l = some { cls := .type "dict", dict := dd, data := .dict es n, slots := sl }) (hu : A.units < cLine) : RcAt A s (.ref l) (.str b u) false := fun prog w E Q h => by
  exact rc_eq_decline_or (k := false) ⟨_, hl, rfl⟩ (typeIs_str s b u) (by decide) F.sub_str_dict F.slot_dict_eq F.slot_str_eq_refl
    (fun _ hq => call_meets F.slot_dict_eq ⟨_, hl, rfl⟩ F.entry_dict_eq (F.args_dict_eq_2 _ _) (dict_declines_str l es n dd sl b u) ⟨hl, hq⟩)
    (fun _ hq => call_meets F.slot_str_eq_refl (typeIs_str s b u) F.entry_str_eq (F.args_str_eq_2 _ _) (str_declines_dict b u l (.type "dict") es n dd sl) ⟨hl, hq⟩)
    (fun _ hq => wpAny_of_eq (rfl : isSame (.ref l) (.str b u) = pure false) hq) (.inr hu) h
/-- a dict == a text -/
def rDS : R2 := fun x y H Q => ∃ a kvs z, x = .ref a ∧ Rd H a (.dK kvs) ∧ y = .str z ∧ Q (.bl false) H
def fDS : D → D → Option Va
  | .dk _, .str _ => some (.im (.bl false))
  | _, _ => none
/-- == of data, a dict beside a text too -/
def fEqD (p q : D) : Option Va := match fEq p q with
  | some v => some v
  | none => fDS p q
section
variable {X : Cx} {W : Wx} {K : PySem.W.Frag} {a b : Expr} {tha thb : TE} {ea eb : M Va} {pos : Pos}
theorem op_ds (hu : X.A.units + 64 < cLine) : OpR X (compareOp .Eq) rDS := by
  intro pins s σ H x y v u Q I rx ry h
  obtain ⟨l, kvs, z, rfl, h1, rfl, hq⟩ := h
  cases rx
  obtain ⟨t, rfl⟩ := ry
  obtain ⟨_, hsm, xs, kv, o, es, ep, ho, ex, hd, _, pr, _⟩ := dk_rd I.hok h1
  obtain ⟨cls, dd, data, sl⟩ := o
  obtain ⟨hc, _⟩ := ex
  simp only at hc hd
  subst hc hd
  exact rcAt_dict_str (A := X.A) z t ho (by omega) X.prog X.w X.xe (EP X pins σ Q) (⟨.bl false, H, I, rfl, hq⟩ : EP X pins σ Q (.bool false) s)
theorem ops_ds : OpS K rDS fDS := fun E F al H σ s x y p q va rel rx ry e Q hQ => by
  unfold fDS at e
  split at e
  · cases e
    obtain ⟨l, vs, rfl, h1, _⟩ := rx.dk rel.sub
    cases ry.str
    exact ⟨l, vs, _, rfl, h1, rfl, fin_d rel (.bl _) hQ⟩
  · cases e
theorem se_eqD (hu : X.A.units + 64 < cLine) (ha : SE X K W a tha ea) (hb : SE X K W b thb eb) : SE X K W (.Compare a [.Eq] [b] pos) (tOp (fun x y H Q => rEqv K false x y H Q ∨ rDS x y H Q) tha thb) (evOp fEqD ea eb) := by
  obtain ⟨rfl, _⟩ := id ha; exact se_cmp (OpR.or (op_eqv hu) (op_ds hu)) (OpS.or ops_eq ops_ds) ha hb (nomark _)
theorem st_eqD (hu : X.A.units + 64 < cLine) (ha : SE X K W a tha ea) (hb : SE X K W b thb eb) : ST X K W (.Compare a [.Eq] [b] pos) (tTest (tOp (fun x y H Q => rEqv K false x y H Q ∨ rDS x y H Q) tha thb)) (evB (evOp fEqD ea eb)) := by
  obtain ⟨rfl, _⟩ := id ha; exact st_cmp (OpR.or (op_eqv hu) (op_ds hu)) (OpS.or ops_eq ops_ds) ha hb (nomark _)
end
end VI
end
section
set_option Elab.async false
set_option linter.all false
set_option maxRecDepth 100000
set_option maxHeartbeats 4000000
/-! V52: what is to be shown of loops over written lists, of suites. -/
namespace VI
open PySem
section
variable {s : S} {nx bk ct : S → Prop} {rt : Va → S → Prop} {ex : Xc → S → Prop} {gv : Gv} {body : Sx} {d : D} {ds : List D}
@[simp] theorem ws_for0 : WpS (forL gv body [] s) nx rt bk ct ex = nx s := rfl
theorem ws_for1 : WpS (forL gv body (d :: ds) s) nx rt bk ct ex = OW (gv d s) fun s1 => WpS (body s1) (fun s2 => WpS (forL gv body ds s2) nx rt bk ct ex) rt nx (fun s2 => WpS (forL gv body ds s2) nx rt bk ct ex) ex := by
  show WpS (match gv d s with
    | some s1 => (match body s1 with
      | .nx s2 => forL gv body ds s2
      | .ct s2 => forL gv body ds s2
      | .bk s2 => .nx s2
      | o => o)
    | none => .no) nx rt bk ct ex = _
  cases gv d s with
  | none => rfl
  | some s1 => simp only [ow_some]; cases body s1 <;> rfl
theorem ws_outS (n : Option Nat) (o : Ot) : WpS (outS n o) nx rt bk ct ex = WpS o (fun s => nx (unS n s)) rt (fun s => bk (unS n s)) (fun s => ct (unS n s)) (fun _ _ => False) := by
  cases o <;> rfl
/-- the clauses, one by one -/
theorem ws_tryH0 (xt : XTab) (x : Xc) : WpS (tryH xt [] x s) nx rt bk ct ex = ex x s := rfl
theorem ws_tryH (xt : XTab) (cs : List Str) (n : Option Nat) (h : Xc → Sx) (r : List XHd) (x : Xc) : WpS (tryH xt ((cs, n, h) :: r) x s) nx rt bk ct ex = OW (xt.lookup x.c) fun sup => if cs.any (sup.contains ·) = true then okS n s = true ∧ WpS (h x (unS n s)) (fun s => nx (unS n s)) rt (fun s => bk (unS n s)) (fun s => ct (unS n s)) (fun _ _ => False) else WpS (tryH xt r x s) nx rt bk ct ex := by
  show WpS (match (xt.lookup x.c).map fun sup => cs.any (sup.contains ·) with
    | some true => if okS n s = true then outS n (h x (unS n s)) else .no
    | some false => tryH xt r x s
    | none => .no) nx rt bk ct ex = _
  cases xt.lookup x.c with
  | none => rfl
  | some sup =>
    simp only [Option.map_some, ow_some]
    cases cs.any (sup.contains ·) with
    | true =>
      simp only [if_true]
      by_cases ho : okS n s = true
      · simp only [ho, if_true, true_and]
        exact ws_outS n _
      · simp only [ho, if_false, false_and]
        simp [WpS]
    | false => simp only [Bool.false_eq_true, if_false]
end
/-! ### written places -/
@[simp] theorem atI_0 {α : Type} (x0 : α) (l : List α) : L2.atI (x0 :: l) 0 = some x0 := by
  unfold L2.atI L2.ixN
  rw [if_pos (by decide), if_pos (by simp only [List.length_cons]; omega)]
  rfl
@[simp] theorem atI_1 {α : Type} (x0 x1 : α) (l : List α) : L2.atI (x0 :: x1 :: l) 1 = some x1 := by
  unfold L2.atI L2.ixN
  rw [if_pos (by decide), if_pos (by simp only [List.length_cons]; omega)]
  rfl
@[simp] theorem atI_2 {α : Type} (x0 x1 x2 : α) (l : List α) : L2.atI (x0 :: x1 :: x2 :: l) 2 = some x2 := by
  unfold L2.atI L2.ixN
  rw [if_pos (by decide), if_pos (by simp only [List.length_cons]; omega)]
  rfl
@[simp] theorem atI_3 {α : Type} (x0 x1 x2 x3 : α) (l : List α) : L2.atI (x0 :: x1 :: x2 :: x3 :: l) 3 = some x3 := by
  unfold L2.atI L2.ixN
  rw [if_pos (by decide), if_pos (by simp only [List.length_cons]; omega)]
  rfl
@[simp] theorem atI_4 {α : Type} (x0 x1 x2 x3 x4 : α) (l : List α) : L2.atI (x0 :: x1 :: x2 :: x3 :: x4 :: l) 4 = some x4 := by
  unfold L2.atI L2.ixN
  rw [if_pos (by decide), if_pos (by simp only [List.length_cons]; omega)]
  rfl
@[simp] theorem atI_5 {α : Type} (x0 x1 x2 x3 x4 x5 : α) (l : List α) : L2.atI (x0 :: x1 :: x2 :: x3 :: x4 :: x5 :: l) 5 = some x5 := by
  unfold L2.atI L2.ixN
  rw [if_pos (by decide), if_pos (by simp only [List.length_cons]; omega)]
  rfl
@[simp] theorem atI_6 {α : Type} (x0 x1 x2 x3 x4 x5 x6 : α) (l : List α) : L2.atI (x0 :: x1 :: x2 :: x3 :: x4 :: x5 :: x6 :: l) 6 = some x6 := by
  unfold L2.atI L2.ixN
  rw [if_pos (by decide), if_pos (by simp only [List.length_cons]; omega)]
  rfl
@[simp] theorem atI_7 {α : Type} (x0 x1 x2 x3 x4 x5 x6 x7 : α) (l : List α) : L2.atI (x0 :: x1 :: x2 :: x3 :: x4 :: x5 :: x6 :: x7 :: l) 7 = some x7 := by
  unfold L2.atI L2.ixN
  rw [if_pos (by decide), if_pos (by simp only [List.length_cons]; omega)]
  rfl
@[simp] theorem atI_8 {α : Type} (x0 x1 x2 x3 x4 x5 x6 x7 x8 : α) (l : List α) : L2.atI (x0 :: x1 :: x2 :: x3 :: x4 :: x5 :: x6 :: x7 :: x8 :: l) 8 = some x8 := by
  unfold L2.atI L2.ixN
  rw [if_pos (by decide), if_pos (by simp only [List.length_cons]; omega)]
  rfl
end VI
end
section
set_option Elab.async false
set_option linter.all false
set_option maxRecDepth 100000
set_option maxHeartbeats 4000000
/-! V53: what laws draw: cells, boxes, takes, names (whatever the law's numbers). -/
namespace VI
open PySem PySem.Spec L2

theorem small {n : Nat} (h : n ≤ 1000) : n ≤ sizeLine := by rw [sizeLine_eq]; omega
theorem set_self {st : List Ob} {b : Nat} {ob : Ob} (h : st[b]? = some ob) : st.set b ob = st := by
  refine List.ext_getElem? fun i => ?_
  rw [List.getElem?_set]
  by_cases e : b = i
  · subst e
    obtain ⟨hl, h2⟩ := List.getElem?_eq_some_iff.mp h
    simp [hl, h2]
  · simp [e]
theorem two {r : Int} (h1 : 0 ≤ r) (h2 : r < 2) : r = 0 ∨ r = 1 := by omega
variable {X : Xc → List Ob → Prop}
/-! ### one number of a box -/
noncomputable def takeG (p q : Int) : Fs := fnOf 2 4 ((svSeq (svIf (evB (evOp fGt (evOp fIx (evVar 0) (evC (.int 0))) (evC (.int 0)))) (svSeq (svHow .own 2 (evOp fMod (evOp fIx (evVar 0) (evC (.int 0))) (evVar 1)))
  (svSeq (svStore (evOp fDiv (evOp fIx (evVar 0) (evC (.int 0))) (evVar 1)) (evVar 0) (evC (.int 0)))
  (svRet (evVar 2)))) svSkip)
  (svSeq (svStore (evOp fAdd (evOp fIx (evVar 0) (evC (.int 2))) (evC (.int 1))) (evVar 0) (evC (.int 2)))
  (svSeq (svHow .own 3 (evOp fMod (evOp fPow (evOp fAdd (evOp fAdd (evOp fIx (evVar 0) (evC (.int 1))) (evOp fMul (evC (.int p)) (evOp fIx (evVar 0) (evC (.int 2))))) (evC (.int q))) (evC (.int 5))) (evC (.int 2147483647))))
  (svSeq (svHow .own 3 (evOp fMod (evOp fPow (evOp fAdd (evVar 3) (evOp fMul (evC (.int 104729)) (evOp fIx (evVar 0) (evC (.int 2))))) (evC (.int 3))) (evC (.int 2147483587))))
  (svRet (evOp fMod (evOp fDiv (evVar 3) (evC (.int 16))) (evVar 1))))))))
noncomputable def takeH (p q u : Int) : Fs := fnOf 2 4 ((svSeq (svIf (evB (evOp fGt (evOp fIx (evVar 0) (evC (.int 0))) (evC (.int 0)))) (svSeq (svHow .own 2 (evOp fMod (evOp fIx (evVar 0) (evC (.int 0))) (evVar 1)))
  (svSeq (svStore (evOp fDiv (evOp fIx (evVar 0) (evC (.int 0))) (evVar 1)) (evVar 0) (evC (.int 0)))
  (svRet (evVar 2)))) svSkip)
  (svSeq (svStore (evOp fAdd (evOp fIx (evVar 0) (evC (.int 2))) (evC (.int 1))) (evVar 0) (evC (.int 2)))
  (svSeq (svHow .own 3 (evOp fMod (evOp fPow (evOp fAdd (evOp fAdd (evOp fIx (evVar 0) (evC (.int 1))) (evOp fMul (evC (.int p)) (evOp fIx (evVar 0) (evC (.int 2))))) (evC (.int q))) (evC (.int 5))) (evC (.int 2147483647))))
  (svSeq (svHow .own 3 (evOp fMod (evOp fPow (evOp fAdd (evOp fDiv (evVar 3) (evC (.int 8))) (evOp fMul (evC (.int u)) (evOp fIx (evVar 0) (evC (.int 2))))) (evC (.int 3))) (evC (.int 2147483587))))
  (svRet (evOp fMod (evOp fDiv (evVar 3) (evC (.int 16))) (evVar 1))))))))
noncomputable def boxG : Fs := fnOf 1 1 ((svRet (evLst (evCons (evBl fMax2 (evConsV (evC (.int 0)) (evConsV (evOp fSub (evVar 0) (evOp fPow (evC (.int 10)) (evC (.int 18)))) evNilV))) (evCons (evOp fMod (evVar 0) (evC (.int 2147483629))) (evCons (evC (.int 0)) evNil))))))
noncomputable def cellG (p q : Int) : Fs := fnOf 2 2 ((svRet (evIf (evB (evOp fLt (evVar 1) (evBl fLen (evConsV (evVar 0) evNilV)))) (evOp fIx (evVar 0) (evVar 1)) (evOp fAdd (evOp fMul (evC (.int p)) (evVar 1)) (evC (.int q))))))
noncomputable def cellH (p q : Int) : Fs := fnOf 2 2 ((svSeq (svIf (evB (evOp fLt (evVar 1) (evBl fLen (evConsV (evVar 0) evNilV)))) (svRet (evOp fIx (evVar 0) (evVar 1))) svSkip)
  (svRet (evOp fAdd (evOp fMul (evC (.int p)) (evVar 1)) (evC (.int q))))))
/-- a take -/
def TakeP (f : Fs) : Prop := ∀ {X : Xc → List Ob → Prop} {b : Nat} {m N : Int} {st : List Ob} {ob : Ob} (_ : st[b]? = some ob) (_ : BxO N ob) (_ : N < 1000000) (_ : 0 < m) (_ : m < 1073741824) (Q : Va → List Ob → Prop) (_ : ∀ r ob', 0 ≤ r → r < m → BxO (N + 1) ob' → Q (.im (.int r)) (st.set b ob')), WpF (f [.ref b, .int m] st) Q X
theorem takeG_ok (p q : Int) (hp : 0 ≤ p ∧ p < 1000000) (hq0 : 0 ≤ q ∧ q < 1000000) : TakeP (takeG p q) := by
  intro X b m N st ob h hb hN hm hm2 Q hq
  obtain ⟨a, y, n, rfl, h1, h2, h3, h4⟩ := hb
  have hp1 : okMul p (n + 1) = true := by rw [okMul_eq]; left; omega
  by_cases ha : 0 < a
  · have qq := hq (a % m) (.lst [.int (a / m), .int y, .int n]) (Int.emod_nonneg _ (by omega)) (Int.emod_lt_of_pos _ hm) ⟨_, _, _, rfl, h1, h2, h3, by omega⟩
    simp [takeG, h, atI, ixN, ha, hm, hm2]
    exact qq
  · have qq := fun r h5 h6 => hq r (.lst [.int a, .int y, .int (n + 1)]) h5 h6 ⟨_, _, _, rfl, h1, h2, by omega, by omega⟩
    have hmul : 0 ≤ p * (n + 1) ∧ p * (n + 1) ≤ 1000000 * 1000000 := ⟨Int.mul_nonneg hp.1 (by omega), Int.mul_le_mul (by omega) (by omega) (by omega) (by omega)⟩
    simp [takeG, h, atI, ixN, ha, hm, hm2]
    generalize p * (n + 1) = z0 at *
    have e1 : 0 ≤ (y + z0 + q) ^ 5 % 2147483647 := Int.emod_nonneg _ (by decide)
    have e2 : (y + z0 + q) ^ 5 % 2147483647 < 2147483647 := Int.emod_lt_of_pos _ (by decide)
    generalize (y + z0 + q) ^ 5 % 2147483647 = z at *
    exact ⟨by omega, by omega, by omega, qq _ (Int.emod_nonneg _ (by omega)) (Int.emod_lt_of_pos _ hm)⟩
theorem takeH_ok (p q u : Int) (hp : 0 ≤ p ∧ p < 1000000) (hq0 : 0 ≤ q ∧ q < 1000000) (hu : 0 ≤ u ∧ u < 1000000) : TakeP (takeH p q u) := by
  intro X b m N st ob h hb hN hm hm2 Q hq
  obtain ⟨a, y, n, rfl, h1, h2, h3, h4⟩ := hb
  by_cases ha : 0 < a
  · have qq := hq (a % m) (.lst [.int (a / m), .int y, .int n]) (Int.emod_nonneg _ (by omega)) (Int.emod_lt_of_pos _ hm) ⟨_, _, _, rfl, h1, h2, h3, by omega⟩
    simp [takeH, h, atI, ixN, ha, hm, hm2]
    exact qq
  · have qq := fun r h5 h6 => hq r (.lst [.int a, .int y, .int (n + 1)]) h5 h6 ⟨_, _, _, rfl, h1, h2, by omega, by omega⟩
    have hmul : 0 ≤ p * (n + 1) ∧ p * (n + 1) ≤ 1000000 * 1000000 := ⟨Int.mul_nonneg hp.1 (by omega), Int.mul_le_mul (by omega) (by omega) (by omega) (by omega)⟩
    have hmulu : 0 ≤ u * (n + 1) ∧ u * (n + 1) ≤ 1000000 * 1000000 := ⟨Int.mul_nonneg hu.1 (by omega), Int.mul_le_mul (by omega) (by omega) (by omega) (by omega)⟩
    simp [takeH, h, atI, ixN, ha, hm, hm2]
    generalize p * (n + 1) = z0 at *
    generalize u * (n + 1) = z1 at *
    have e1 : 0 ≤ (y + z0 + q) ^ 5 % 2147483647 := Int.emod_nonneg _ (by decide)
    have e2 : (y + z0 + q) ^ 5 % 2147483647 < 2147483647 := Int.emod_lt_of_pos _ (by decide)
    generalize (y + z0 + q) ^ 5 % 2147483647 = z at *
    exact ⟨by omega, by omega, by omega, by omega, qq _ (Int.emod_nonneg _ (by omega)) (Int.emod_lt_of_pos _ hm)⟩
theorem boxG_ok {i : Int} {st : List Ob} (Q : Va → List Ob → Prop) (hq : ∀ ob, BxO 0 ob → Q (.fr ob) st) : WpF (boxG [.int i] st) Q X := by
  simp [boxG, fMax2, sizeLine_eq]
  exact hq _ ⟨_, _, _, rfl, Int.emod_nonneg _ (by decide), by have := Int.emod_lt_of_pos i (show (0 : Int) < 2147483629 by decide); omega, by omega, by omega⟩
theorem cellG_ok {p q : Int} (hp : 0 ≤ p ∧ p < 1000000) {ns : List Int} {k : Int} {st : List Ob} (hk : 0 ≤ k) (hk2 : k < 1000) (Q : Va → List Ob → Prop) (hq : ∀ v, Q (.im (.int v)) st) : WpF (cellG p q [.lz (ns.map .int), .int k] st) Q X := by
  simp [cellG, fLen]
  by_cases h : k < ns.length
  · rw [if_pos h, atI_of hk (by simpa using h)]
    simp
    exact hq _
  · rw [if_neg h]
    exact ⟨by omega, hq _⟩
theorem cellH_ok {p q : Int} (hp : 0 ≤ p ∧ p < 1000000) {ns : List Int} {k : Int} {st : List Ob} (hk : 0 ≤ k) (hk2 : k < 1000) (Q : Va → List Ob → Prop) (hq : ∀ v, Q (.im (.int v)) st) : WpF (cellH p q [.lz (ns.map .int), .int k] st) Q X := by
  simp only [cellH, wpf_fn, ws_seq]
  simp [fLen]
  by_cases h : k < ns.length
  · rw [if_pos h, atI_of hk (by simpa using h)]
    simp
    exact hq _
  · rw [if_neg h]
    exact ⟨by omega, hq _⟩
end VI
end
section
set_option Elab.async false
set_option linter.all false
set_option maxRecDepth 100000
set_option maxHeartbeats 4000000
/-! V54: drawn names. -/
namespace VI
open PySem PySem.Spec L2
def NameOk (x : Str) : Prop := (1 ≤ x.length ∧ x.length ≤ 8) ∧ x ≠ "public" ∧ x ≠ "caller" ∧ ∀ c ∈ x.cps.toList, 97 ≤ c ∧ c ≤ 122
/-- a name of at most seven letters -/
def Nm (x : Str) : Prop := NameOk x ∧ x.length ≤ 7
def Let (x : Str) : Prop := ∀ c ∈ x.cps.toList, 97 ≤ c ∧ c ≤ 122
theorem nm_of {x : Str} (h : Let x) (h1 : 1 ≤ x.length ∧ x.length ≤ 7) (h2 : x.length = 6 → 108 ∉ x.cps.toList.drop 1) : Nm x := by
  have e1 : (Str.ofString "public").length = 6 := by rw [ofS_len]; decide
  have e2 : (Str.ofString "caller").length = 6 := by rw [ofS_len]; decide
  refine ⟨⟨⟨h1.1, by omega⟩, fun e => ?_, fun e => ?_, h⟩, h1.2⟩
  · refine h2 (by rw [e]; exact e1) ?_
    rw [e, ofS_cps]; decide
  · refine h2 (by rw [e]; exact e2) ?_
    rw [e, ofS_cps]; decide
theorem Let.cut {x : Str} (h : Let x) (lo hi : Option Int) : Let (cutS x lo hi) := fun c hc => h c (cutS_mem hc)
theorem Let.app {x y : Str} (h : Let x) (h2 : Let y) : Let (x ++ y) := fun c hc => by
  rw [app_cps] at hc
  rcases List.mem_append.mp hc with q | q
  · exact h c q
  · exact h2 c q
theorem Let.ch {c : Nat} (h1 : 97 ≤ c) (h2 : c ≤ 122) : Let ⟨#[c]⟩ := fun d hd => by
  have : d = c := by simpa using hd
  subst this
  exact ⟨h1, h2⟩
def abc : Str := "abcdefghijklmnopqrstuvwxyz"
theorem abc_cps : abc.cps.toList = List.range' 97 26 := by decide +kernel
theorem abc_len : abc.length = 26 := by show abc.cps.size = 26; rw [← Array.length_toList, abc_cps]; simp
theorem abc_at {i : Int} (h1 : 0 ≤ i) (h2 : i < 26) : fIx (.str abc) (.int i) = some (.im (.str ⟨#[97 + i.toNat]⟩)) := by
  have hl : abc.length ≤ sizeLine := by rw [abc_len]; exact small (by omega)
  have hlt : i < abc.cps.toList.length := by rw [abc_cps]; simpa using h2
  have e : abc.cps.toList[i.toNat]'(by omega) = 97 + i.toNat := by
    simp only [abc_cps, List.getElem_range']; omega
  simp [hl, atI_of h1 hlt]
  simpa using e
def abk : Str := "abcdefghijkmnopqrstuvwxyz"
theorem abk_cps : abk.cps.toList = List.range' 97 11 ++ List.range' 109 14 := by decide +kernel
theorem abk_len : abk.length = 25 := by show abk.cps.size = 25; rw [← Array.length_toList, abk_cps]; simp
theorem abk_at {i : Int} (h1 : 0 ≤ i) (h2 : i < 25) : ∃ c : Nat, (97 ≤ c ∧ c ≤ 122 ∧ c ≠ 108) ∧ fIx (.str abk) (.int i) = some (.im (.str ⟨#[c]⟩)) := by
  have hl : abk.length ≤ sizeLine := by rw [abk_len]; exact small (by omega)
  have hlt : i < abk.cps.toList.length := by rw [abk_cps]; simpa using h2
  have hm : abk.cps.toList[i.toNat]'(by omega) ∈ abk.cps.toList := List.getElem_mem _
  have hm2 : 97 ≤ abk.cps.toList[i.toNat]'(by omega) ∧ abk.cps.toList[i.toNat]'(by omega) ≤ 122 ∧ abk.cps.toList[i.toNat]'(by omega) ≠ 108 := by
    revert hm
    generalize abk.cps.toList[i.toNat]'(by omega) = c
    rw [abk_cps, List.mem_append, List.mem_range', List.mem_range']
    rintro (⟨j, h, rfl⟩ | ⟨j, h, rfl⟩) <;> omega
  exact ⟨_, hm2, by simp [hl, atI_of h1 hlt]⟩
theorem join_chs : ∀ xs : List Nat, (Str.join (Str.ofString "") (xs.map ch)).cps.toList = xs
  | [] => by simp [Str.join, Str.empty]
  | [z] => by simp [Str.join, ch]
  | z :: w :: zs => by
    have ih := join_chs (w :: zs)
    have e : Str.join (Str.ofString "") ((z :: w :: zs).map ch) = ch z ++ Str.ofString "" ++ Str.join (Str.ofString "") ((w :: zs).map ch) := rfl
    have e2 : (Str.ofString "").cps.toList = [] := by rw [ofS_cps]; decide
    rw [e, app_cps, app_cps, ih, e2]
    simp [ch]
theorem chs_sum : ∀ xs : List Nat, ((xs.map ch).map (·.length)).sum = xs.length
  | [] => rfl
  | x :: xs => by
    have := chs_sum xs
    simp [ch, Str.length] at this ⊢
    omega
theorem chs_join {xs : List Nat} (h : xs.length ≤ 1000) : ∃ W : Str, fJoin (Str.ofString "") (.lst (xs.map fun x => .str (ch x))) = some (.im (.str W)) ∧ W.cps.toList = xs := by
  have e : xs.map (fun x => D.str (ch x)) = (xs.map ch).map .str := by simp
  refine ⟨Txt.join (Str.ofString "") (xs.map ch), ?_, ?_⟩
  · rw [e]
    refine fJoin_ok ?_
    rw [chs_sum, ofS_len]
    have : ("" : String).length = 0 := by decide
    rw [this]
    omega
  · rw [TL.join_eq, join_chs]
theorem cut_lo {z : Str} {a : Int} (h : 0 ≤ a) : (cutS z none (some a)).length = min a.toNat z.length := by
  have hz : z.cps.toList.length = z.length := by simp [Str.length]
  have ha : ¬ a < 0 := by omega
  show (cutS z none (some a)).cps.size = _
  unfold cutS HT.sIx
  simp [ha, Str.length]
theorem cut_hi {z : Str} {a : Int} (h : 0 ≤ a) : (cutS z (some a) none).length = z.length - a.toNat := by
  have hz : z.cps.toList.length = z.length := by simp [Str.length]
  have ha : ¬ a < 0 := by omega
  show (cutS z (some a) none).cps.size = _
  unfold cutS HT.sIx
  simp [ha, Str.length]
  omega
@[irreducible] noncomputable def namesT : Sx := (svSeq (svFor (evRng1 (evCons (evVar 1) evNil)) (gvName 9)
  (svSeq (svHow .own 10 (evOp fIx (evVar 2) (evOp fMod (evOp fAdd (evVar 5) (evOp fMul (evC (.int 7)) (evVar 9))) (evC (.int 26)))))
  (svSeq (svHow .own 11 (evOp fIx (evVar 2) (evOp fMod (evOp fAdd (evVar 5) (evOp fDiv (evVar 9) (evC (.int 7)))) (evC (.int 26)))))
  (svExpr (evMut isLst fAppend (evVar 8) (evCons (evOp fIx (evLst (evCons (evOp fAdd (evOp fAdd (evSl (evVar 7) (evPart none) (evPart (some (evVar 6)))) (evVar 10)) (evSl (evVar 7) (evPart (some (evVar 6))) (evPart none))) (evCons (evOp fAdd (evVar 10) (evSl (evVar 7) (evPart none) (evPart (some (evOp fMod (evVar 9) (evC (.int 7))))))) (evCons (evOp fAdd (evVar 11) (evSl (evVar 7) (evPart none) (evPart (some (evOp fMod (evVar 9) (evC (.int 7))))))) evNil)))) (evVar 4)) evNil))))))
  (svRet (evVar 8)))
@[irreducible] noncomputable def namesG (take : Fs) : Fs := fnOf 2 12 ((svSeq (svAsg (gvTup 2 (gvCons (gvName 2) (gvCons (gvName 3) gvNil))) (evTup (evCons (evC (.str abc)) (evCons (evC (.str abk)) evNil))))
  (svSeq (svPar3 4 5 6 (evCons (evCall take [] (evCons (evVar 0) (evCons (evC (.int 3)) evNil))) (evCons (evCall take [] (evCons (evVar 0) (evCons (evC (.int 26)) evNil))) (evCons (evCall take [] (evCons (evVar 0) (evCons (evC (.int 7)) evNil))) evNil))))
  (svSeq (svHow .own 7 (ev1 fJoin (evC (.str ("" : Str))) (evComp [9] (evRng1 (evCons (evC (.int 6)) evNil)) (gvName 9) (pure true) (evOp fIx (evVar 3) (evCall take [] (evCons (evVar 0) (evCons (evC (.int 25)) evNil)))))))
  (svSeq (svHow .own 8 (evLst evNil))
  namesT)))))
/-- the k-th name -/
def nmF (wy fi at' : Int) (W : Str) (k : Nat) : Str :=
  let c : Str := ⟨#[97 + ((fi + 7 * (k : Int)) % 26).toNat]⟩
  let g : Str := ⟨#[97 + ((fi + (k : Int) / 7) % 26).toNat]⟩
  if wy = 0 then cutS W none (some at') ++ c ++ cutS W (some at') none else if wy = 1 then c ++ cutS W none (some ((k : Int) % 7)) else g ++ cutS W none (some ((k : Int) % 7))
theorem nmF_nm {wy fi at' : Int} {W : Str} {k : Nat} (h2 : 0 ≤ fi) (h3 : 0 ≤ at' ∧ at' < 7) (hW : Let W) (hl : 108 ∉ W.cps.toList) (hW2 : W.length = 6) : Nm (nmF wy fi at' W k) := by
  have l1 := cut_lo (z := W) h3.1
  have l2 := cut_hi (z := W) h3.1
  have hk : (0 : Int) ≤ (k : Int) % 7 ∧ (k : Int) % 7 < 7 := by omega
  have l3 := cut_lo (z := W) hk.1
  have hc : ∀ j : Int, (⟨#[97 + (j % 26).toNat]⟩ : Str).length = 1 := fun j => rfl
  have hL : ∀ j : Int, Let ⟨#[97 + (j % 26).toNat]⟩ := fun j => Let.ch (by omega) (by have := Int.emod_lt_of_pos j (show (0 : Int) < 26 by decide); have := Int.emod_nonneg j (show (26 : Int) ≠ 0 by decide); omega)
  have key : ∀ j : Int, Nm ((⟨#[97 + (j % 26).toNat]⟩ : Str) ++ cutS W none (some ((k : Int) % 7))) := fun j => by
    refine nm_of ((hL j).app (hW.cut _ _)) (by rw [len_app, hc]; omega) fun e hm => ?_
    rw [len_app, hc] at e
    rw [app_cps] at hm
    exact hl (cutS_mem (by simpa using hm))
  unfold nmF
  dsimp only
  split
  · exact nm_of (((hW.cut _ _).app (hL _)).app (hW.cut _ _)) (by rw [len_app, len_app, hc]; omega) fun e => by rw [len_app, len_app, hc] at e; omega
  · split
    · exact key _
    · exact key _
theorem str_ext {x y : Str} (h : x.cps.toList = y.cps.toList) : x = y := by
  cases x; cases y
  simp only [Str.mk.injEq]
  exact Array.toList_inj.mp h
theorem nmF_inj {wy fi at' : Int} {W : Str} {k j : Nat} (hk : k < 26) (hj : j < 26) (hW2 : W.length = 6) (h : nmF wy fi at' W k = nmF wy fi at' W j) : k = j := by
  have h0 : (nmF wy fi at' W k).cps.toList = (nmF wy fi at' W j).cps.toList := by rw [h]
  unfold nmF at h0
  dsimp only at h0
  split at h0
  · simp only [app_cps] at h0
    have e := List.append_cancel_left (as := (cutS W none (some at')).cps.toList) (by simpa only [List.append_assoc] using h0)
    simp at e
    omega
  · split at h0
    · simp only [app_cps] at h0
      simp at h0
      omega
    · simp only [app_cps] at h0
      have l1 := cut_lo (z := W) (a := (k : Int) % 7) (by omega)
      have l2 := cut_lo (z := W) (a := (j : Int) % 7) (by omega)
      have hl := congrArg List.length h0
      have z1 : (cutS W none (some ((k : Int) % 7))).cps.toList.length = (cutS W none (some ((k : Int) % 7))).length := by simp [Str.length]
      have z2 : (cutS W none (some ((j : Int) % 7))).cps.toList.length = (cutS W none (some ((j : Int) % 7))).length := by simp [Str.length]
      simp only [List.length_append, z1, z2] at hl
      simp at h0 hl
      omega
theorem nmF_nodup {wy fi at' : Int} {W : Str} {m : Nat} (hm : m ≤ 26) (hW2 : W.length = 6) : ((List.range m).map (nmF wy fi at' W)).Nodup := by
  rw [List.nodup_iff_pairwise_ne, List.pairwise_map]
  refine List.Pairwise.imp_of_mem (R := (· < ·)) (fun ha hb hab e => ?_) List.pairwise_lt_range
  have := nmF_inj (Nat.lt_of_lt_of_le (List.mem_range.mp ha) hm) (Nat.lt_of_lt_of_le (List.mem_range.mp hb) hm) hW2 e
  omega
theorem rng1_nat {m : Nat} (h : m < 1000000) : rng1 [.int (m : Nat)] = some (rngD 0 m) := by
  simp only [rng1]
  split
  · simp
  · rename_i h1
    exact absurd ⟨by omega, by omega⟩ h1
theorem wp_rng1_of {r : M (List D)} {ds l : List D} {s : S} {R : List D → S → Prop} {Y : Xc → S → Prop} (h : Wp r s (fun x s' => x = ds ∧ s' = s) fun _ _ => False) (hr : rng1 ds = some l) (q : R l s) : Wp (evRng1 r) s R Y := by
  rw [wp_rng1]
  refine Wp.mono h (fun x s' ⟨e1, e2⟩ => ?_) fun _ _ z => z.elim
  subst e1 e2
  rw [hr]
  exact q
theorem namesT_ok {b : Nat} {m : Nat} {wy fi at' : Int} {W : Str} {x9 x10 x11 : Sl} {st : List Ob} (hm : m ≤ 26) (h1 : 0 ≤ wy ∧ wy < 3) (h2 : 0 ≤ fi ∧ fi < 26) (h3 : 0 ≤ at' ∧ at' < 7) (hW2 : W.length = 6) {nx bk ct : S → Prop} {rt : Va → S → Prop} {ex : Xc → S → Prop}
    (hq : ∀ (s : S), s.st = st → rt (.fr (.lst (((List.range m).map (nmF wy fi at' W)).map .str))) s) :
    WpS (namesT ⟨[.im (.ref b), .im (.int (m : Nat)), .im (.str abc), .im (.str abk), .im (.int wy), .im (.int fi), .im (.int at'), .im (.str W), .ow false (.lst []), x9, x10, x11], st⟩) nx rt bk ct ex := by
  have hs : sizeLine = 16777216 := sizeLine_eq
  unfold namesT
  simp only [ws_seq, ws_for]
  have hr : rng1 [.int (m : Nat)] = some (rngD 0 m) := rng1_nat (by omega)
  refine wp_rng1_of (l := rngD 0 m) (ds := [.int (m : Nat)]) ?_ ?_ ?_
  · simp
  · exact hr
  refine for_inv _ (fun i s => ∃ x9 x10 x11, s = ⟨[.im (.ref b), .im (.int (m : Nat)), .im (.str abc), .im (.str abk), .im (.int wy), .im (.int fi), .im (.int at'), .im (.str W), .ow false (.lst (((List.range i).map (nmF wy fi at' W)).map .str)), x9, x10, x11], st⟩) ⟨_, _, _, rfl⟩ (fun i d s hd hI => ?_) (fun s hI => ?_)
  · obtain ⟨y9, y10, y11, rfl⟩ := hI
    obtain ⟨rfl, hi⟩ := rng_get hd
    have c3 := abc_at (i := (fi + 7 * (i : Int)) % 26) (Int.emod_nonneg _ (by decide)) (Int.emod_lt_of_pos _ (by decide))
    have g3 := abc_at (i := (fi + (i : Int) / 7) % 26) (Int.emod_nonneg _ (by decide)) (Int.emod_lt_of_pos _ (by decide))
    have hc : ∀ c : Nat, (⟨#[c]⟩ : Str).length = 1 := fun c => rfl
    have l1 := cut_lo (z := W) h3.1
    have l2 := cut_hi (z := W) h3.1
    have l3 := cut_lo (z := W) (a := (i : Int) % 7) (by omega)
    simp only [ws_seq]
    simp [gvName, c3, g3, hW2, fSl, hs, len_app, hc, l1, l2, l3]
    have hat : atI [D.str (cutS W none (some at') ++ ⟨#[97 + ((fi + 7 * (i : Int)) % 26).toNat]⟩ ++ cutS W (some at') none), D.str (⟨#[97 + ((fi + 7 * (i : Int)) % 26).toNat]⟩ ++ cutS W none (some ((i : Int) % 7))), D.str (⟨#[97 + ((fi + (i : Int) / 7) % 26).toNat]⟩ ++ cutS W none (some ((i : Int) % 7)))] wy = some (.str (nmF wy fi at' W i)) := by
      have e : wy = 0 ∨ wy = 1 ∨ wy = 2 := by omega
      rcases e with rfl | rfl | rfl <;> rfl
    simp [hat, isLst, fAppend, hs]
    refine ⟨by omega, by omega, by omega, by omega, ?_⟩
    rw [putV_pl (p := false) (o' := .lst (((List.range i).map (nmF wy fi at' W)).map .str)) (by simp)]
    refine ⟨.im (.int (i : Nat)), _, _, by simp [List.range_succ]; exact ⟨rfl, rfl⟩⟩
  · obtain ⟨y9, y10, y11, rfl⟩ := hI
    simp [retV]
    have e : (rngD 0 m).length = m := by simp [rngD]
    rw [e]
    simpa using hq _ rfl
theorem namesG_ok {take : Fs} (ht : TakeP take) {X : Xc → List Ob → Prop} {b : Nat} {m : Nat} {N : Int} {st : List Ob} {ob : Ob} (h : st[b]? = some ob) (hb : BxO N ob) (hN : N < 900000) (hm : m ≤ 26) (Q : Va → List Ob → Prop) (hq : ∀ (ns : List Str) ob', ns.length = m → (∀ n ∈ ns, Nm n) → ns.Nodup → BxO (N + 9) ob' → Q (.fr (.lst (ns.map .str))) (st.set b ob')) : WpF (namesG take [.ref b, .int (m : Nat)] st) Q X := by
  have hs : sizeLine = 16777216 := sizeLine_eq
  have P := @namesT_ok
  unfold namesG
  generalize namesT = T at P ⊢
  simp only [wpf_fn, ws_seq]
  simp [hs, gvTup, gvCons, gvName, gvNil, seqOf]
  refine ht (m := 3) h hb (by omega) (by decide) (by decide) _ fun r1 ob1 hr1 hr1' hb1 => ?_
  simp
  refine ht (m := 26) (ob := ob1) (by simp [h]) hb1 (by omega) (by decide) (by decide) _ fun r2 ob2 hr2 hr2' hb2 => ?_
  simp
  refine ht (m := 7) (ob := ob2) (by simp [h]) hb2 (by omega) (by decide) (by decide) _ fun r3 ob3 hr3 hr3' hb3 => ?_
  simp
  refine ⟨_, _, _, ⟨rfl, rfl, rfl⟩, ?_⟩
  rw [wp_comp]
  simp [rng1]
  obtain ⟨acc, s2, e, ob2, xs, rfl, hb2, rfl, hx, hl⟩ := comp_inv (vs := [9]) (gv := gvName 9) (tt := pure true) (te := evOp fIx (evVar 3) (evCall take [] (evCons (evVar 0) (evCons (evC (D.int 25)) evNil)))) (s := ⟨[.im (.ref b), .im (.int (m : Nat)), .im (.str abc), .im (.str abk), .im (.int r1), .im (.int r2), .im (.int r3), .un, .un, .un, .un, .un], st.set b ob3⟩) (acc := [])
    (Q := fun acc s => ∃ ob' xs, s = ⟨[.im (.ref b), .im (.int (m : Nat)), .im (.str abc), .im (.str abk), .im (.int r1), .im (.int r2), .im (.int r3), .un, .un, .un, .un, .un], st.set b ob'⟩ ∧ BxO (N + 9) ob' ∧ acc = xs.map (fun x => .str (ch x)) ∧ xs.length = 6 ∧ ∀ x ∈ xs, 97 ≤ x ∧ x ≤ 122 ∧ x ≠ 108) (rngD 0 6)
    (fun i acc s => ∃ ob' xs, s = ⟨[.im (.ref b), .im (.int (m : Nat)), .im (.str abc), .im (.str abk), .im (.int r1), .im (.int r2), .im (.int r3), .un, .un, .un, .un, .un], st.set b ob'⟩ ∧ BxO (N + 3 + (i : Nat)) ob' ∧ acc = xs.map (fun x => .str (ch x)) ∧ xs.length = i ∧ ∀ x ∈ xs, 97 ≤ x ∧ x ≤ 122 ∧ x ≠ 108) ⟨ob3, [], rfl, hb3.mono (by omega), rfl, rfl, fun _ h => by simp at h⟩
    (fun i d acc s hd ⟨ob', xs, es, hb', ea, hx, hy⟩ => by
      have hi := (rng_get hd).2
      subst es ea
      simp [gvName, W1]
      refine ht (m := 25) (ob := ob') (N := N + 3 + (i : Nat)) (by simp [h]) hb' (by omega) (by decide) (by decide) _ fun r' ob2 hr' hr2' hb2' => ?_
      obtain ⟨c, c1, c3⟩ := abk_at hr' hr2'
      simp [c3]
      refine ⟨by omega, ob2, rfl, ?_, xs ++ [c], by simp [ch], by simp [hx], fun x hx => ?_⟩
      · have e : N + 3 + ((i : Int) + 1) = N + 3 + (i : Nat) + 1 := by omega
        rw [e]; exact hb2'
      · rcases List.mem_append.mp hx with q | q
        · exact hy x q
        · simp at q; subst q; exact c1) (fun acc s ⟨ob', xs, es, hb', ea, hx, hy⟩ => ⟨ob', xs, es, hb'.mono (by
          have : (rngD 0 6).length = 6 := by simp [rngD]
          omega), ea, by
          have : (rngD 0 6).length = 6 := by simp [rngD]
          omega, hy⟩)
  refine ⟨_, _, e, ?_⟩
  obtain ⟨W, hW, hWl⟩ := chs_join (xs := xs) (by omega)
  have hW6 : W.length = 6 := by
    show W.cps.size = 6
    rw [← Array.length_toList, hWl, hx]
  have hLet : Let W := fun c hc => by rw [hWl] at hc; exact ⟨(hl c hc).1, (hl c hc).2.1⟩
  have hno : 108 ∉ W.cps.toList := fun hc => by rw [hWl] at hc; exact (hl _ hc).2.2 rfl
  rw [hW]
  have hmg : ∀ (x0 x1 x2 x3 x4 x5 x6 : Sl) (z1 z2 : List Ob), mergeS [9] ⟨[x0, x1, x2, x3, x4, x5, x6, .un, .un, .un, .un, .un], z1⟩ ⟨[x0, x1, x2, x3, x4, x5, x6, .un, .un, .un, .un, .un], z2⟩ = ⟨[x0, x1, x2, x3, x4, x5, x6, .un, .un, .un, .un, .un], z2⟩ := fun x0 x1 x2 x3 x4 x5 x6 z1 z2 => by simp [mergeS, mergeE]
  rw [hmg, ow_some, ownV_im, ow_some]
  simp only [setIm_mk, List.set_cons_succ, List.set_cons_zero]
  refine P (m := m) ?_ ?_ ?_ ?_ ?_ ?_
  · exact hm
  · exact ⟨hr1, hr1'⟩
  · exact ⟨hr2, hr2'⟩
  · exact ⟨hr3, hr3'⟩
  · exact hW6
  intro s hs
  rw [hs]
  refine ⟨fun i e => (by cases e), ?_⟩
  refine hq _ ob2 (by simp) (fun n hn => ?_) (nmF_nodup hm hW6) hb2
  obtain ⟨k, _, rfl⟩ := List.mem_map.mp hn
  exact nmF_nm hr2 ⟨hr3, hr3'⟩ hLet hno hW6
end VI
end
section
set_option Elab.async false
set_option linter.all false
set_option maxRecDepth 100000
set_option maxHeartbeats 2000000
namespace K07
open PySem PySem.Spec L2 VI
/-! the evaluators (printed by gen2.py) -/
def c_MADE_KINDS : List He.Dv := [(.str "table"), (.str "function")]
def c_RIGHTS : List He.Dv := [(.str "inherit"), (.str "act"), (.str "read"), (.str "write"), (.str "call")]
def c_RIGHTS_BY_KIND : TabD := [("role", [(.str "inherit"), (.str "act")]), ("table", [(.str "read"), (.str "write")]), ("function", [(.str "call")])]
def tabI : IsTab := [("Deed", ["Deed"]), ("Give", ["Give", "Deed"]), ("Take", ["Take", "Deed"]), ("Call", ["Call", "Deed"]), ("Preset", ["Preset", "Deed"]), ("Use", ["Use", "Deed"])]
def xtab : XTab := [("InvalidName", ["InvalidName", "RoleError"]), ("InvalidTaker", ["InvalidTaker", "RoleError"]), ("InvalidRight", ["InvalidRight", "RoleError"]), ("InvalidKind", ["InvalidKind", "RoleError"]), ("InvalidFlag", ["InvalidFlag", "RoleError"])]
def hnl : List Str := ["RoleError", "MissingError", "StateError", "InvalidKind", "InvalidFlag", "InvalidTaker", "InvalidRight", "InvalidName"]
/-- _law_box(_law_cell_here): slots _law_cell_here -/
noncomputable def f__law_box : Fs := fnOf 1 1 ((svRet (evLst (evCons (evBl fMax2 (evConsV (evC (.int 0)) (evConsV (evOp fSub (evVar 0) (evOp fPow (evC (.int 10)) (evC (.int 18)))) evNilV))) (evCons (evOp fMod (evVar 0) (evC (.int 2147483629))) (evCons (evC (.int 0)) evNil))))))
/-- _law_cell(_law_script, _law_k): slots _law_script, _law_k -/
noncomputable def f__law_cell : Fs := fnOf 2 2 ((svRet (evIf (evB (evOp fLt (evVar 1) (evBl fLen (evConsV (evVar 0) evNilV)))) (evOp fIx (evVar 0) (evVar 1)) (evOp fAdd (evOp fMul (evC (.int 6441)) (evVar 1)) (evC (.int 360))))))
/-- _law_flag_due(_law_value, _law_taker): slots _law_value, _law_taker -/
noncomputable def f__law_flag_due : Fs := fnOf 2 2 ((svSeq (svIf (mOr (mNot (evT (evBl fIsi (evConsV (evVar 0) (evConsV (evC (.ty "bool")) evNilV))))) (mAnd (evT (evVar 0)) (evB (evOp fEqD (evVar 1) (evC (.str ("public" : Str))))))) (svRet (evLst (evCons (evC (.str ("flag" : Str))) (evCons (evVar 0) evNil)))) svSkip)
  (svRet (evLst (evCons (evC (.str ("told" : Str))) (evCons (evC .non) evNil))))))
/-- _law_is_name(_law_value): slots _law_value, _law_sign -/
noncomputable def f__law_is_name : Fs := fnOf 1 2 ((svSeq (svIf (mOr (mNot (evT (evBl fIsi (evConsV (evVar 0) (evConsV (evC (.ty "str")) evNilV))))) (mOr (mNot (evB (evChain fLe fLe (evC (.int 1)) (evBl fLen (evConsV (evVar 0) evNilV)) (evC (.int 8))))) (evB (evOp fIn (evVar 0) (evLst (evCons (evC (.str ("public" : Str))) (evCons (evC (.str ("caller" : Str))) evNil))))))) (svRet (evC (.bl false))) svSkip)
  (svRet (evOp fEqD (evComp [1] (evIt (evVar 0)) (gvName 1) (mNot (evB (evChain fLe fLe (evC (.str ("a" : Str))) (evVar 1) (evC (.str ("z" : Str)))))) (evVar 1)) (evLst evNil)))))
/-- _law_is_right(_law_value): slots _law_value -/
noncomputable def f__law_is_right : Fs := fnOf 1 1 ((svRet (evAnd (evBl fIsi (evConsV (evVar 0) (evConsV (evC (.ty "str")) evNilV))) (evOp fIn (evVar 0) (evLst (evCons (evC (.str ("inherit" : Str))) (evCons (evC (.str ("act" : Str))) (evCons (evC (.str ("read" : Str))) (evCons (evC (.str ("write" : Str))) (evCons (evC (.str ("call" : Str))) evNil))))))))))
/-- _law_is_taker(_law_value): slots _law_value -/
noncomputable def f__law_is_taker : Fs := fnOf 1 1 ((svRet (evOr (evCall f__law_is_name [] (evCons (evVar 0) evNil)) (evOp fEqD (evVar 0) (evC (.str ("public" : Str)))))))
/-- _law_preset_due(_law_row): slots _law_row, _law_rights -/
noncomputable def f__law_preset_due : Fs := fnOf 1 2 ((svSeq (svHow .own 1 (evDict (evPc (.inr ("table" : Str)) (evLst (evCons (evC (.str ("read" : Str))) (evCons (evC (.str ("write" : Str))) evNil))) (evPc (.inr ("function" : Str)) (evLst (evCons (evC (.str ("call" : Str))) evNil)) evPn))))
  (svSeq (svIf (mOr (mNot (evT (evBl fIsi (evConsV (evOp fIx (evVar 0) (evC (.int 1))) (evConsV (evC (.ty "str")) evNilV))))) (evB (evOp fNotIn (evOp fIx (evVar 0) (evC (.int 1))) (evVar 1)))) (svRet (evLst (evCons (evC (.str ("kind" : Str))) (evCons (evOp fIx (evVar 0) (evC (.int 1))) evNil)))) svSkip)
  (svSeq (svIf (mOr (mNot (evT (evBl fIsi (evConsV (evOp fIx (evVar 0) (evC (.int 2))) (evConsV (evC (.ty "str")) evNilV))))) (evB (evOp fNotIn (evOp fIx (evVar 0) (evC (.int 2))) (evOp fIx (evVar 1) (evOp fIx (evVar 0) (evC (.int 1))))))) (svRet (evLst (evCons (evC (.str ("right" : Str))) (evCons (evOp fIx (evVar 0) (evC (.int 2))) evNil)))) svSkip)
  (svSeq (svIf (mNot (evT (evCall f__law_is_taker [] (evCons (evOp fIx (evVar 0) (evC (.int 3))) evNil)))) (svRet (evLst (evCons (evC (.str ("taker" : Str))) (evCons (evOp fIx (evVar 0) (evC (.int 3))) evNil)))) svSkip)
  (svRet (evCall f__law_flag_due [] (evCons (evOp fIx (evVar 0) (evC (.int 4))) (evCons (evOp fIx (evVar 0) (evC (.int 3))) evNil)))))))))
/-- _law_take_due(_law_row): slots _law_row, _law_value -/
noncomputable def f__law_take_due : Fs := fnOf 1 2 ((svSeq (svIf (mAnd (evB (evOp fIsnt (evOp fIx (evVar 0) (evC (.int 4))) (evC .non))) (mNot (evT (evCall f__law_is_name [] (evCons (evOp fIx (evVar 0) (evC (.int 4))) evNil))))) (svRet (evLst (evCons (evC (.str ("name" : Str))) (evCons (evOp fIx (evVar 0) (evC (.int 4))) evNil)))) svSkip)
  (svSeq (svFor (evIt (evSl (evVar 0) (evPart (some (evC (.int 5)))) (evPart none))) (gvName 1)
  (svIf (mNot (evT (evBl fIsi (evConsV (evVar 1) (evConsV (evC (.ty "bool")) evNilV))))) (svRet (evLst (evCons (evC (.str ("flag" : Str))) (evCons (evVar 1) evNil)))) svSkip))
  (svRet (evLst (evCons (evC (.str ("told" : Str))) (evCons (evC .non) evNil)))))))
/-- _law_due(_law_row): slots _law_row -/
noncomputable def f__law_due : Fs := fnOf 1 1 ((svSeq (svIf (evB (evOp fEqD (evOp fIx (evVar 0) (evC (.int 0))) (evC (.str ("call" : Str))))) (svRet (evIf (evT (evCall f__law_is_name [] (evCons (evOp fIx (evVar 0) (evC (.int 1))) evNil))) (evLst (evCons (evC (.str ("told" : Str))) (evCons (evC .non) evNil))) (evLst (evCons (evC (.str ("name" : Str))) (evCons (evOp fIx (evVar 0) (evC (.int 1))) evNil))))) svSkip)
  (svSeq (svIf (evB (evOp fEqD (evOp fIx (evVar 0) (evC (.int 0))) (evC (.str ("preset" : Str))))) (svRet (evCall f__law_preset_due [] (evCons (evVar 0) evNil))) svSkip)
  (svSeq (svIf (mNot (evT (evCall f__law_is_right [] (evCons (evOp fIx (evVar 0) (evC (.int 1))) evNil)))) (svRet (evLst (evCons (evC (.str ("right" : Str))) (evCons (evOp fIx (evVar 0) (evC (.int 1))) evNil)))) svSkip)
  (svSeq (svIf (mNot (evT (evCall f__law_is_name [] (evCons (evOp fIx (evVar 0) (evC (.int 2))) evNil)))) (svRet (evLst (evCons (evC (.str ("name" : Str))) (evCons (evOp fIx (evVar 0) (evC (.int 2))) evNil)))) svSkip)
  (svSeq (svIf (evB (evOp fEqD (evOp fIx (evVar 0) (evC (.int 0))) (evC (.str ("use" : Str))))) (svRet (evLst (evCons (evC (.str ("told" : Str))) (evCons (evC .non) evNil)))) svSkip)
  (svSeq (svIf (mAnd (mNot (evT (evCall f__law_is_taker [] (evCons (evOp fIx (evVar 0) (evC (.int 3))) evNil)))) (mNot (mAnd (evB (evOp fEqD (evOp fIx (evVar 0) (evC (.int 0))) (evC (.str ("give" : Str))))) (evB (evOp fEqD (evOp fIx (evVar 0) (evC (.int 3))) (evC (.str ("caller" : Str)))))))) (svRet (evLst (evCons (evC (.str ("taker" : Str))) (evCons (evOp fIx (evVar 0) (evC (.int 3))) evNil)))) svSkip)
  (svRet (evIf (evB (evOp fEqD (evOp fIx (evVar 0) (evC (.int 0))) (evC (.str ("take" : Str))))) (evCall f__law_take_due [] (evCons (evVar 0) evNil)) (evCall f__law_flag_due [] (evCons (evOp fIx (evVar 0) (evC (.int 4))) (evCons (evOp fIx (evVar 0) (evC (.int 3))) evNil))))))))))))
/-- is_name(value): slots value, sign -/
noncomputable def f_is_name : Fs := fnOf 1 2 ((svSeq (svIf (mOr (mNot (evT (evBl fIsi (evConsV (evVar 0) (evConsV (evC (.ty "str")) evNilV))))) (mOr (mNot (evB (evChain fLe fLe (evC (.int 1)) (evBl fLen (evConsV (evVar 0) evNilV)) (evC (.int 8))))) (evB (evOp fIn (evVar 0) (evTup (evCons (evC (.str ("public" : Str))) (evCons (evC (.str ("caller" : Str))) evNil))))))) (svRet (evC (.bl false))) svSkip)
  (svRet (evBl (fBls gAll) (evConsV (evComp [1] (evIt (evVar 0)) (gvName 1) (pure true) (evOp fIn (evVar 1) (evC (.str ("abcdefghijklmnopqrstuvwxyz" : Str))))) evNilV)))))
/-- need_name(value): slots value -/
noncomputable def f_need_name : Fs := fnOf 1 1 ((svIf (mNot (evT (evCall f_is_name [] (evCons (evVar 0) evNil)))) (svRaise "InvalidName" "value" [] (evCons (evVar 0) evNil)) svSkip))
/-- Deed.__init__(self, words): slots self, words -/
noncomputable def f_Deed___init__ : FsI := initOf 2 2 ((svAttr ["Give", "Take", "Call", "Preset", "Use"] "own_words" (evBl fList (evConsV (evVar 1) evNilV)) (evVar 0)))
noncomputable def e_Deed_star : FsIK := istar f_Deed___init__ 0
/-- Call.__init__(self, function): slots self, function, __class__ -/
noncomputable def f_Call___init__ : FsI := initC 2 3 "Call" ((svSeq (svExpr (evCall f_need_name [] (evCons (evVar 1) evNil)))
  (svSeq (svSup e_Deed_star "Call" (evCons (evC (.str ("call" : Str))) (evCons (evVar 1) evNil)) 0 evNil)
  (svAttr ["Call"] "function" (evVar 1) (evVar 0)))))
/-- flagged(word, flag): slots word, flag -/
noncomputable def f_flagged : Fs := fnOf 2 2 ((svRet (evIf (evT (evVar 1)) (evLst (evCons (evVar 0) evNil)) (evLst evNil))))
/-- is_flag(value): slots value -/
noncomputable def f_is_flag : Fs := fnOf 1 1 ((svRet (evBl fIsi (evConsV (evVar 0) (evConsV (evC (.ty "bool")) evNilV)))))
/-- need_flag(value, taker): slots value, taker -/
noncomputable def f_need_flag : Fs := fnOf 2 2 ((svIf (mOr (mNot (evT (evCall f_is_flag [] (evCons (evVar 0) evNil)))) (mAnd (evT (evVar 0)) (evB (evOp fEqD (evVar 1) (evC (.str ("public" : Str))))))) (svRaise "InvalidFlag" "value" [] (evCons (evVar 0) evNil)) svSkip))
/-- is_right(value): slots value -/
noncomputable def f_is_right : Fs := fnOf 1 1 ((svRet (evAnd (evBl fIsi (evConsV (evVar 0) (evConsV (evC (.ty "str")) evNilV))) (evOp fIn (evVar 0) (evC (.tz (c_RIGHTS.map dvD)))))))
/-- need_right(value): slots value -/
noncomputable def f_need_right : Fs := fnOf 1 1 ((svIf (mNot (evT (evCall f_is_right [] (evCons (evVar 0) evNil)))) (svRaise "InvalidRight" "value" [] (evCons (evVar 0) evNil)) svSkip))
/-- is_taker(value): slots value -/
noncomputable def f_is_taker : Fs := fnOf 1 1 ((svRet (evOr (evCall f_is_name [] (evCons (evVar 0) evNil)) (evAnd (evBl fIsi (evConsV (evVar 0) (evConsV (evC (.ty "str")) evNilV))) (evOp fEqD (evVar 0) (evC (.str ("public" : Str))))))))
/-- need_taker(value): slots value -/
noncomputable def f_need_taker : Fs := fnOf 1 1 ((svIf (mNot (evT (evCall f_is_taker [] (evCons (evVar 0) evNil)))) (svRaise "InvalidTaker" "value" [] (evCons (evVar 0) evNil)) svSkip))
/-- Give.__init__(self, right, thing, taker, option): slots self, right, thing, taker, option, __class__, ends -/
noncomputable def f_Give___init__ : FsI := initC 5 7 "Give" ((svSeq (svExpr (evCall f_need_right [] (evCons (evVar 1) evNil)))
  (svSeq (svExpr (evCall f_need_name [] (evCons (evVar 2) evNil)))
  (svSeq (svIf (mOr (mNot (evT (evBl fIsi (evConsV (evVar 3) (evConsV (evC (.ty "str")) evNilV))))) (evB (evOp fNe (evVar 3) (evC (.str ("caller" : Str)))))) (svExpr (evCall f_need_taker [] (evCons (evVar 3) evNil))) svSkip)
  (svSeq (svExpr (evCall f_need_flag [] (evCons (evVar 4) (evCons (evVar 3) evNil))))
  (svSeq (svHow .own 6 (evCall f_flagged [] (evCons (evC (.str ("option" : Str))) (evCons (evVar 4) evNil))))
  (svSeq (svSup e_Deed_star "Give" (evCons (evC (.str ("give" : Str))) (evCons (evVar 1) (evCons (evVar 2) (evCons (evVar 3) (evStar (evVar 6) evNil))))) 0 evNil)
  (svSeq (svAttr ["Give", "Take", "Preset", "Use"] "right" (evVar 1) (evVar 0))
  (svSeq (svAttr ["Give", "Take", "Use"] "thing" (evVar 2) (evVar 0))
  (svSeq (svAttr ["Give", "Take", "Preset"] "taker" (evVar 3) (evVar 0))
  (svAttr ["Give", "Preset"] "option" (evVar 4) (evVar 0))))))))))))
/-- Preset.__init__(self, kind, right, taker, option): slots self, kind, right, taker, option, __class__, ends -/
noncomputable def f_Preset___init__ : FsI := initC 5 7 "Preset" ((svSeq (svIf (mOr (mNot (evT (evBl fIsi (evConsV (evVar 1) (evConsV (evC (.ty "str")) evNilV))))) (evB (evOp fNotIn (evVar 1) (evC (.tz (c_MADE_KINDS.map dvD)))))) (svRaise "InvalidKind" "value" [] (evCons (evVar 1) evNil)) svSkip)
  (svSeq (svIf (mOr (mNot (evT (evCall f_is_right [] (evCons (evVar 2) evNil)))) (evB (evOp fNotIn (evVar 2) (evOp (fTabD "RIGHTS_BY_KIND" c_RIGHTS_BY_KIND) (evC (.fn "RIGHTS_BY_KIND")) (evVar 1))))) (svRaise "InvalidRight" "value" [] (evCons (evVar 2) evNil)) svSkip)
  (svSeq (svExpr (evCall f_need_taker [] (evCons (evVar 3) evNil)))
  (svSeq (svExpr (evCall f_need_flag [] (evCons (evVar 4) (evCons (evVar 3) evNil))))
  (svSeq (svHow .own 6 (evCall f_flagged [] (evCons (evC (.str ("option" : Str))) (evCons (evVar 4) evNil))))
  (svSeq (svSup e_Deed_star "Preset" (evCons (evC (.str ("preset" : Str))) (evCons (evVar 1) (evCons (evVar 2) (evCons (evVar 3) (evStar (evVar 6) evNil))))) 0 evNil)
  (svSeq (svAttr ["Preset"] "kind" (evVar 1) (evVar 0))
  (svSeq (svAttr ["Give", "Take", "Preset", "Use"] "right" (evVar 2) (evVar 0))
  (svSeq (svAttr ["Give", "Take", "Preset"] "taker" (evVar 3) (evVar 0))
  (svAttr ["Give", "Preset"] "option" (evVar 4) (evVar 0))))))))))))
/-- Take.__init__(self, right, thing, taker, giver, only_option, cascade): slots self, right, thing, taker, giver, only_option, cascade, __class__, ends -/
noncomputable def f_Take___init__ : FsI := initC 7 9 "Take" ((svSeq (svExpr (evCall f_need_right [] (evCons (evVar 1) evNil)))
  (svSeq (svExpr (evCall f_need_name [] (evCons (evVar 2) evNil)))
  (svSeq (svExpr (evCall f_need_taker [] (evCons (evVar 3) evNil)))
  (svSeq (svIf (evB (evOp fIsnt (evVar 4) (evC .non))) (svExpr (evCall f_need_name [] (evCons (evVar 4) evNil))) svSkip)
  (svSeq (svExpr (evCall f_need_flag [(.str "")] (evCons (evVar 5) evNil)))
  (svSeq (svExpr (evCall f_need_flag [(.str "")] (evCons (evVar 6) evNil)))
  (svSeq (svHow .own 8 (evIf (evB (evOp fIs (evVar 4) (evC .non))) (evLst evNil) (evLst (evCons (evC (.str ("by" : Str))) (evCons (evVar 4) evNil)))))
  (svSeq (svHow .own 8 (evOp fAdd (evOp fAdd (evVar 8) (evCall f_flagged [] (evCons (evC (.str ("option" : Str))) (evCons (evVar 5) evNil)))) (evCall f_flagged [] (evCons (evC (.str ("cascade" : Str))) (evCons (evVar 6) evNil)))))
  (svSeq (svSup e_Deed_star "Take" (evCons (evC (.str ("take" : Str))) (evCons (evVar 1) (evCons (evVar 2) (evCons (evVar 3) (evStar (evVar 8) evNil))))) 0 evNil)
  (svSeq (svAttr ["Give", "Take", "Preset", "Use"] "right" (evVar 1) (evVar 0))
  (svSeq (svAttr ["Give", "Take", "Use"] "thing" (evVar 2) (evVar 0))
  (svSeq (svAttr ["Give", "Take", "Preset"] "taker" (evVar 3) (evVar 0))
  (svSeq (svAttr ["Take"] "giver" (evVar 4) (evVar 0))
  (svSeq (svAttr ["Take"] "only_option" (evVar 5) (evVar 0))
  (svAttr ["Take"] "cascade" (evVar 6) (evVar 0)))))))))))))))))
/-- Use.__init__(self, right, thing): slots self, right, thing, __class__ -/
noncomputable def f_Use___init__ : FsI := initC 3 4 "Use" ((svSeq (svExpr (evCall f_need_right [] (evCons (evVar 1) evNil)))
  (svSeq (svExpr (evCall f_need_name [] (evCons (evVar 2) evNil)))
  (svSeq (svSup e_Deed_star "Use" (evCons (evC (.str ("use" : Str))) (evCons (evVar 1) (evCons (evVar 2) evNil))) 0 evNil)
  (svSeq (svAttr ["Give", "Take", "Preset", "Use"] "right" (evVar 1) (evVar 0))
  (svAttr ["Give", "Take", "Use"] "thing" (evVar 2) (evVar 0)))))))
noncomputable def e_Call_1 : FsIK := ipos f_Call___init__ []
noncomputable def e_Give_3_option : FsIK := ikw f_Give___init__ 4 1 [0, 1, 2, 3] []
noncomputable def e_Preset_3_option : FsIK := ikw f_Preset___init__ 4 1 [0, 1, 2, 3] []
noncomputable def e_Take_3_giver_only_option_cascade : FsIK := ikw f_Take___init__ 4 3 [0, 1, 2, 3, 4, 5] []
noncomputable def e_Use_2 : FsIK := ipos f_Use___init__ []
/-- _law_made(_law_row): slots _law_row -/
noncomputable def f__law_made : Fs := fnOf 1 1 ((svSeq (svIf (evB (evOp fEqD (evOp fIx (evVar 0) (evC (.int 0))) (evC (.str ("give" : Str))))) (svRet (evMake e_Give_3_option "Give" (evCons (evOp fIx (evVar 0) (evC (.int 1))) (evCons (evOp fIx (evVar 0) (evC (.int 2))) (evCons (evOp fIx (evVar 0) (evC (.int 3))) evNil))) 1 (evCons (evOp fIx (evVar 0) (evC (.int 4))) evNil))) svSkip)
  (svSeq (svIf (evB (evOp fEqD (evOp fIx (evVar 0) (evC (.int 0))) (evC (.str ("take" : Str))))) (svRet (evMake e_Take_3_giver_only_option_cascade "Take" (evCons (evOp fIx (evVar 0) (evC (.int 1))) (evCons (evOp fIx (evVar 0) (evC (.int 2))) (evCons (evOp fIx (evVar 0) (evC (.int 3))) evNil))) 3 (evCons (evOp fIx (evVar 0) (evC (.int 4))) (evCons (evOp fIx (evVar 0) (evC (.int 5))) (evCons (evOp fIx (evVar 0) (evC (.int 6))) evNil))))) svSkip)
  (svSeq (svIf (evB (evOp fEqD (evOp fIx (evVar 0) (evC (.int 0))) (evC (.str ("call" : Str))))) (svRet (evMake e_Call_1 "Call" (evCons (evOp fIx (evVar 0) (evC (.int 1))) evNil) 0 evNil)) svSkip)
  (svSeq (svIf (evB (evOp fEqD (evOp fIx (evVar 0) (evC (.int 0))) (evC (.str ("preset" : Str))))) (svRet (evMake e_Preset_3_option "Preset" (evCons (evOp fIx (evVar 0) (evC (.int 1))) (evCons (evOp fIx (evVar 0) (evC (.int 2))) (evCons (evOp fIx (evVar 0) (evC (.int 3))) evNil))) 1 (evCons (evOp fIx (evVar 0) (evC (.int 4))) evNil))) svSkip)
  (svRet (evMake e_Use_2 "Use" (evCons (evOp fIx (evVar 0) (evC (.int 1))) (evCons (evOp fIx (evVar 0) (evC (.int 2))) evNil)) 0 evNil)))))))
/-- _law_found(_law_row): slots _law_row, e -/
noncomputable def f__law_found : Fs := fnOf 1 2 ((svSeq (svTry (svExpr (evCall f__law_made [] (evCons (evVar 0) evNil))) xtab [(["InvalidName"], some 1, svXRet (fun x => evLst ((fun x => evCons ((fun _ => (evC (.str ("name" : Str)))) x) ((fun x => evCons ((evXf ["InvalidName"] "value") x) ((fun _ => evNil) x)) x)) x))), (["InvalidRight"], some 1, svXRet (fun x => evLst ((fun x => evCons ((fun _ => (evC (.str ("right" : Str)))) x) ((fun x => evCons ((evXf ["InvalidRight"] "value") x) ((fun _ => evNil) x)) x)) x))), (["InvalidTaker"], some 1, svXRet (fun x => evLst ((fun x => evCons ((fun _ => (evC (.str ("taker" : Str)))) x) ((fun x => evCons ((evXf ["InvalidTaker"] "value") x) ((fun _ => evNil) x)) x)) x))), (["InvalidFlag"], some 1, svXRet (fun x => evLst ((fun x => evCons ((fun _ => (evC (.str ("flag" : Str)))) x) ((fun x => evCons ((evXf ["InvalidFlag"] "value") x) ((fun _ => evNil) x)) x)) x))), (["InvalidKind"], some 1, svXRet (fun x => evLst ((fun x => evCons ((fun _ => (evC (.str ("kind" : Str)))) x) ((fun x => evCons ((evXf ["InvalidKind"] "value") x) ((fun _ => evNil) x)) x)) x))), (["RoleError", "MissingError", "StateError"], none, svXRet (fun x => evLst ((fun x => evCons ((fun _ => (evC (.str ("other" : Str)))) x) ((fun x => evCons ((fun _ => (evC .non)) x) ((fun _ => evNil) x)) x)) x)))])
  (svRet (evLst (evCons (evC (.str ("told" : Str))) (evCons (evC .non) evNil))))))
/-- _law_take(_law_box_here, _law_many): slots _law_box_here, _law_many, _law_digit, _law_number -/
noncomputable def f__law_take : Fs := fnOf 2 4 ((svSeq (svIf (evB (evOp fGt (evOp fIx (evVar 0) (evC (.int 0))) (evC (.int 0)))) (svSeq (svHow .own 2 (evOp fMod (evOp fIx (evVar 0) (evC (.int 0))) (evVar 1)))
  (svSeq (svStore (evOp fDiv (evOp fIx (evVar 0) (evC (.int 0))) (evVar 1)) (evVar 0) (evC (.int 0)))
  (svRet (evVar 2)))) svSkip)
  (svSeq (svStore (evOp fAdd (evOp fIx (evVar 0) (evC (.int 2))) (evC (.int 1))) (evVar 0) (evC (.int 2)))
  (svSeq (svHow .own 3 (evOp fMod (evOp fPow (evOp fAdd (evOp fAdd (evOp fIx (evVar 0) (evC (.int 1))) (evOp fMul (evC (.int 6247)) (evOp fIx (evVar 0) (evC (.int 2))))) (evC (.int 478))) (evC (.int 5))) (evC (.int 2147483647))))
  (svSeq (svHow .own 3 (evOp fMod (evOp fPow (evOp fAdd (evVar 3) (evOp fMul (evC (.int 104729)) (evOp fIx (evVar 0) (evC (.int 2))))) (evC (.int 3))) (evC (.int 2147483587))))
  (svRet (evOp fMod (evOp fDiv (evVar 3) (evC (.int 16))) (evVar 1))))))))
/-- _law_names(_law_box_here, _law_many): slots _law_box_here, _law_many, _law_letters, _law_stems, _law_way, _law_first, _law_at, _law_stem, _law_found_here, _law_k, _law_letter, _law_group -/
noncomputable def f__law_names : Fs := fnOf 2 12 ((svSeq (svAsg (gvTup 2 (gvCons (gvName 2) (gvCons (gvName 3) gvNil))) (evTup (evCons (evC (.str ("abcdefghijklmnopqrstuvwxyz" : Str))) (evCons (evC (.str ("abcdefghijkmnopqrstuvwxyz" : Str))) evNil))))
  (svSeq (svPar3 4 5 6 (evCons (evCall f__law_take [] (evCons (evVar 0) (evCons (evC (.int 3)) evNil))) (evCons (evCall f__law_take [] (evCons (evVar 0) (evCons (evC (.int 26)) evNil))) (evCons (evCall f__law_take [] (evCons (evVar 0) (evCons (evC (.int 7)) evNil))) evNil))))
  (svSeq (svHow .own 7 (ev1 fJoin (evC (.str ("" : Str))) (evComp [9] (evRng1 (evCons (evC (.int 6)) evNil)) (gvName 9) (pure true) (evOp fIx (evVar 3) (evCall f__law_take [] (evCons (evVar 0) (evCons (evC (.int 25)) evNil)))))))
  (svSeq (svHow .own 8 (evLst evNil))
  (svSeq (svFor (evRng1 (evCons (evVar 1) evNil)) (gvName 9)
  (svSeq (svHow .own 10 (evOp fIx (evVar 2) (evOp fMod (evOp fAdd (evVar 5) (evOp fMul (evC (.int 7)) (evVar 9))) (evC (.int 26)))))
  (svSeq (svHow .own 11 (evOp fIx (evVar 2) (evOp fMod (evOp fAdd (evVar 5) (evOp fDiv (evVar 9) (evC (.int 7)))) (evC (.int 26)))))
  (svExpr (evMut isLst fAppend (evVar 8) (evCons (evOp fIx (evLst (evCons (evOp fAdd (evOp fAdd (evSl (evVar 7) (evPart none) (evPart (some (evVar 6)))) (evVar 10)) (evSl (evVar 7) (evPart (some (evVar 6))) (evPart none))) (evCons (evOp fAdd (evVar 10) (evSl (evVar 7) (evPart none) (evPart (some (evOp fMod (evVar 9) (evC (.int 7))))))) (evCons (evOp fAdd (evVar 11) (evSl (evVar 7) (evPart none) (evPart (some (evOp fMod (evVar 9) (evC (.int 7))))))) evNil)))) (evVar 4)) evNil))))))
  (svRet (evVar 8))))))))
/-- _law_odd(_law_box_here): slots _law_box_here, _law_some -/
noncomputable def f__law_odd : Fs := fnOf 1 2 ((svSeq (svHow .own 1 (evLst (evCons (evC .non) (evCons (evC (.bl true)) (evCons (evC (.int 0)) (evCons (evC (.int 1)) (evCons (evC (.str ("" : Str))) (evCons (evC (.str ("public" : Str))) (evCons (evC (.str ("caller" : Str))) (evCons (evC (.str ("Ann" : Str))) (evCons (evC (.str ("a b" : Str))) (evCons (evC (.str ("abcdefghi" : Str))) (evCons (evC (.str ("reads" : Str))) (evCons (evC (.str ("role" : Str))) (evCons (evCell (evLst evNil)) (evCons (evCell (evLst (evCons (evC (.str ("ann" : Str))) evNil))) (evCons (evCell (pure (.fr (.dk [])))) evNil)))))))))))))))))
  (svSeq (svHow .own 1 (evOp fAdd (evVar 1) (evLst (evCons (evTup (evCons (evC (.str ("ann" : Str))) evNil)) (evCons (evC (.str ("read" : Str))) (evCons (evC (.str ("call" : Str))) (evCons (evC (.str ("inherit" : Str))) (evCons (evC (.str ("table" : Str))) (evCons (evC (.str ("function" : Str))) (evCons (evOp fPow (evC (.int 10)) (evC (.int 29))) (evCons (evC (.bl false)) (evCons (evC (.str ("option" : Str))) evNil))))))))))))
  (svRet (evOp fIx (evVar 1) (evCall f__law_take [] (evCons (evVar 0) (evCons (evC (.int 24)) evNil))))))))
/-- _law_parts(_law_box_here): slots _law_box_here, _law_names_here, _law_way, _law_flags, _law_word, _law_rows, _law_preset, _law_found_here, _law_turn -/
noncomputable def f__law_parts : Fs := fnOf 1 9 ((svSeq (svHow .own 1 (evCall f__law_names [] (evCons (evVar 0) (evCons (evC (.int 3)) evNil))))
  (svSeq (svHow .own 2 (evCall f__law_take [] (evCons (evVar 0) (evCons (evC (.int 5)) evNil))))
  (svSeq (svHow .own 3 (evLst (evCons (evOp fEqD (evCall f__law_take [] (evCons (evVar 0) (evCons (evC (.int 2)) evNil))) (evC (.int 0))) (evCons (evOp fEqD (evCall f__law_take [] (evCons (evVar 0) (evCons (evC (.int 2)) evNil))) (evC (.int 0))) evNil))))
  (svSeq (svHow .own 4 (evOp fIx (evLst (evCons (evC (.str ("inherit" : Str))) (evCons (evC (.str ("act" : Str))) (evCons (evC (.str ("read" : Str))) (evCons (evC (.str ("write" : Str))) (evCons (evC (.str ("call" : Str))) evNil)))))) (evCall f__law_take [] (evCons (evVar 0) (evCons (evC (.int 5)) evNil)))))
  (svSeq (svHow .own 5 (evLst (evCons (evCell (evLst (evCons (evC (.str ("give" : Str))) (evCons (evVar 4) (evCons (evOp fIx (evVar 1) (evC (.int 0))) (evCons (evOp fIx (evVar 1) (evC (.int 1))) (evCons (evOp fIx (evVar 3) (evC (.int 0))) evNil))))))) (evCons (evCell (evOp fAdd (evLst (evCons (evC (.str ("take" : Str))) (evCons (evVar 4) (evCons (evOp fIx (evVar 1) (evC (.int 0))) (evCons (evOp fIx (evVar 1) (evC (.int 1))) (evCons (evOp fIx (evVar 1) (evC (.int 2))) evNil)))))) (evVar 3))) evNil))))
  (svSeq (svHow .own 6 (evOp fIx (evLst (evCons (evCell (evLst (evCons (evC (.str ("table" : Str))) (evCons (evC (.str ("read" : Str))) evNil)))) (evCons (evCell (evLst (evCons (evC (.str ("table" : Str))) (evCons (evC (.str ("write" : Str))) evNil)))) (evCons (evCell (evLst (evCons (evC (.str ("function" : Str))) (evCons (evC (.str ("call" : Str))) evNil)))) evNil)))) (evCall f__law_take [] (evCons (evVar 0) (evCons (evC (.int 3)) evNil)))))
  (svSeq (svHow .own 5 (evOp fAdd (evVar 5) (evLst (evCons (evCell (evLst (evCons (evC (.str ("call" : Str))) (evCons (evOp fIx (evVar 1) (evC (.int 0))) evNil)))) (evCons (evCell (evOp fAdd (evOp fAdd (evLst (evCons (evC (.str ("preset" : Str))) evNil)) (evVar 6)) (evLst (evCons (evOp fIx (evVar 1) (evC (.int 1))) (evCons (evOp fIx (evVar 3) (evC (.int 0))) evNil))))) evNil)))))
  (svSeq (svHow .own 7 (evOp fIx (evOp fAdd (evVar 5) (evLst (evCons (evCell (evLst (evCons (evC (.str ("use" : Str))) (evCons (evVar 4) (evCons (evOp fIx (evVar 1) (evC (.int 0))) evNil))))) evNil))) (evVar 2)))
  (svSeq (svFor (evRng1 (evCons (evOp fAdd (evC (.int 1)) (evCall f__law_take [] (evCons (evVar 0) (evCons (evC (.int 2)) evNil)))) evNil)) (gvName 8)
  (svStore (evCall f__law_odd [] (evCons (evVar 0) evNil)) (evVar 7) (evOp fAdd (evC (.int 1)) (evCall f__law_take [] (evCons (evVar 0) (evCons (evOp fSub (evBl fLen (evConsV (evVar 7) evNilV)) (evC (.int 1))) evNil))))))
  (svRet (evVar 7))))))))))))
/-- law(_law_script): slots _law_script, _law_k, _law_box_here, _law_turn, _law_row, _law_found_here, _law_due_here -/
noncomputable def f_law : Fs := fnOf 1 7 ((svSeq (svFor (evRng1 (evCons (evBl fMax2 (evConsV (evC (.int 2)) (evConsV (evBl fMin2 (evConsV (evC (.int 8)) (evConsV (evBl fLen (evConsV (evVar 0) evNilV)) evNilV))) evNilV))) evNil)) (gvName 1)
  (svSeq (svHow .cell 2 (evCall f__law_box [] (evCons (evCall f__law_cell [] (evCons (evVar 0) (evCons (evVar 1) evNil))) evNil)))
  (svFor (evRng1 (evCons (evC (.int 12)) evNil)) (gvName 3)
  (svSeq (svHow .own 4 (evCall f__law_parts [] (evCons (evVar 2) evNil)))
  (svSeq (svPar 5 6 (evCons (evCall f__law_found [] (evCons (evVar 4) evNil)) (evCons (evCall f__law_due [] (evCons (evVar 4) evNil)) evNil)))
  (svSeq (svIf (evT (evBl fIsi (evConsV (evOp fIx (evVar 6) (evC (.int 1))) (evConsV (evC (.ty "list")) evNilV)))) (svExpr (evMut isLst fAppend (evOp fIx (evVar 6) (evC (.int 1))) (evCons (evC (.str ("late" : Str))) evNil))) svSkip)
  (svSeq (svIf (evT (evBl fIsi (evConsV (evOp fIx (evVar 6) (evC (.int 1))) (evConsV (evC (.ty "dict")) evNilV)))) (svStore (evC (.str ("late" : Str))) (evOp fIx (evVar 6) (evC (.int 1))) (evBl fLen (evConsV (evOp fIx (evVar 6) (evC (.int 1))) evNilV))) svSkip)
  (svIf (evB (evOp fNe (evReprS (evConsV (evVar 5) evNilV)) (evReprS (evConsV (evVar 6) evNilV)))) (svRet (evC (.bl false))) svSkip))))))))
  (svRet (evC (.bl true)))))
/-! keyword orders -/
/-! the text -/
def top (i : Nat) : Stmt := PySem.Challenge.pw_rolereach_k07_deeds_refused.main.body.getD i (.Pass ⟨0, 0, 0, 0⟩)
def mth (i j : Nat) : Stmt := (C8.clsBody (top i)).getD j (.Pass ⟨0, 0, 0, 0⟩)
def fileS : Str := PySem.Challenge.pw_rolereach_k07_deeds_refused.main.file
abbrev s__law_box : Stmt := top 34
def d__law_box : He.DefD := ⟨("_law_box", none), "_law_box", "_law_box", defArgs s__law_box, defBody s__law_box, defScope s__law_box, [], []⟩
abbrev s__law_cell : Stmt := top 33
def d__law_cell : He.DefD := ⟨("_law_cell", none), "_law_cell", "_law_cell", defArgs s__law_cell, defBody s__law_cell, defScope s__law_cell, [], []⟩
abbrev s__law_flag_due : Stmt := top 42
def d__law_flag_due : He.DefD := ⟨("_law_flag_due", none), "_law_flag_due", "_law_flag_due", defArgs s__law_flag_due, defBody s__law_flag_due, defScope s__law_flag_due, [], []⟩
abbrev s__law_is_name : Stmt := top 39
def d__law_is_name : He.DefD := ⟨("_law_is_name", none), "_law_is_name", "_law_is_name", defArgs s__law_is_name, defBody s__law_is_name, defScope s__law_is_name, [], []⟩
abbrev s__law_is_right : Stmt := top 40
def d__law_is_right : He.DefD := ⟨("_law_is_right", none), "_law_is_right", "_law_is_right", defArgs s__law_is_right, defBody s__law_is_right, defScope s__law_is_right, [], []⟩
abbrev s__law_is_taker : Stmt := top 41
def d__law_is_taker : He.DefD := ⟨("_law_is_taker", none), "_law_is_taker", "_law_is_taker", defArgs s__law_is_taker, defBody s__law_is_taker, defScope s__law_is_taker, [], []⟩
abbrev s__law_preset_due : Stmt := top 44
def d__law_preset_due : He.DefD := ⟨("_law_preset_due", none), "_law_preset_due", "_law_preset_due", defArgs s__law_preset_due, defBody s__law_preset_due, defScope s__law_preset_due, [], []⟩
abbrev s__law_take_due : Stmt := top 43
def d__law_take_due : He.DefD := ⟨("_law_take_due", none), "_law_take_due", "_law_take_due", defArgs s__law_take_due, defBody s__law_take_due, defScope s__law_take_due, [], []⟩
abbrev s__law_due : Stmt := top 45
def d__law_due : He.DefD := ⟨("_law_due", none), "_law_due", "_law_due", defArgs s__law_due, defBody s__law_due, defScope s__law_due, [], []⟩
abbrev s_is_name : Stmt := top 15
def d_is_name : He.DefD := ⟨("is_name", none), "is_name", "is_name", defArgs s_is_name, defBody s_is_name, defScope s_is_name, [], []⟩
abbrev s_need_name : Stmt := top 21
def d_need_name : He.DefD := ⟨("need_name", none), "need_name", "need_name", defArgs s_need_name, defBody s_need_name, defScope s_need_name, [], []⟩
abbrev s_Deed___init__ : Stmt := mth 26 0
abbrev s_Call___init__ : Stmt := mth 29 0
abbrev s_flagged : Stmt := top 25
def d_flagged : He.DefD := ⟨("flagged", none), "flagged", "flagged", defArgs s_flagged, defBody s_flagged, defScope s_flagged, [], []⟩
abbrev s_is_flag : Stmt := top 18
def d_is_flag : He.DefD := ⟨("is_flag", none), "is_flag", "is_flag", defArgs s_is_flag, defBody s_is_flag, defScope s_is_flag, [], []⟩
abbrev s_need_flag : Stmt := top 24
def d_need_flag : He.DefD := ⟨("need_flag", none), "need_flag", "need_flag", defArgs s_need_flag, defBody s_need_flag, defScope s_need_flag, [(.str "")], []⟩
abbrev s_is_right : Stmt := top 17
def d_is_right : He.DefD := ⟨("is_right", none), "is_right", "is_right", defArgs s_is_right, defBody s_is_right, defScope s_is_right, [], []⟩
abbrev s_need_right : Stmt := top 22
def d_need_right : He.DefD := ⟨("need_right", none), "need_right", "need_right", defArgs s_need_right, defBody s_need_right, defScope s_need_right, [], []⟩
abbrev s_is_taker : Stmt := top 16
def d_is_taker : He.DefD := ⟨("is_taker", none), "is_taker", "is_taker", defArgs s_is_taker, defBody s_is_taker, defScope s_is_taker, [], []⟩
abbrev s_need_taker : Stmt := top 23
def d_need_taker : He.DefD := ⟨("need_taker", none), "need_taker", "need_taker", defArgs s_need_taker, defBody s_need_taker, defScope s_need_taker, [], []⟩
abbrev s_Give___init__ : Stmt := mth 27 0
abbrev s_Preset___init__ : Stmt := mth 30 0
abbrev s_Take___init__ : Stmt := mth 28 0
abbrev s_Use___init__ : Stmt := mth 31 0
abbrev s__law_made : Stmt := top 46
def d__law_made : He.DefD := ⟨("_law_made", none), "_law_made", "_law_made", defArgs s__law_made, defBody s__law_made, defScope s__law_made, [], []⟩
abbrev s__law_found : Stmt := top 47
def d__law_found : He.DefD := ⟨("_law_found", none), "_law_found", "_law_found", defArgs s__law_found, defBody s__law_found, defScope s__law_found, [], []⟩
abbrev s__law_take : Stmt := top 35
def d__law_take : He.DefD := ⟨("_law_take", none), "_law_take", "_law_take", defArgs s__law_take, defBody s__law_take, defScope s__law_take, [], []⟩
abbrev s__law_names : Stmt := top 36
def d__law_names : He.DefD := ⟨("_law_names", none), "_law_names", "_law_names", defArgs s__law_names, defBody s__law_names, defScope s__law_names, [], []⟩
abbrev s__law_odd : Stmt := top 37
def d__law_odd : He.DefD := ⟨("_law_odd", none), "_law_odd", "_law_odd", defArgs s__law_odd, defBody s__law_odd, defScope s__law_odd, [], []⟩
abbrev s__law_parts : Stmt := top 38
def d__law_parts : He.DefD := ⟨("_law_parts", none), "_law_parts", "_law_parts", defArgs s__law_parts, defBody s__law_parts, defScope s__law_parts, [], []⟩
abbrev s_law : Stmt := top 48
def d_law : He.DefD := ⟨("law", none), "law", "law", defArgs s_law, defBody s_law, defScope s_law, [], []⟩
abbrev s_InvalidName___init__ : Stmt := mth 4 0
def d_InvalidName___init__ : He.DefD := ⟨("InvalidName", some "__init__"), "__init__", "InvalidName.__init__", defArgs s_InvalidName___init__, defBody s_InvalidName___init__, defScope s_InvalidName___init__, [], []⟩
abbrev s_InvalidTaker___init__ : Stmt := mth 5 0
def d_InvalidTaker___init__ : He.DefD := ⟨("InvalidTaker", some "__init__"), "__init__", "InvalidTaker.__init__", defArgs s_InvalidTaker___init__, defBody s_InvalidTaker___init__, defScope s_InvalidTaker___init__, [], []⟩
abbrev s_InvalidRight___init__ : Stmt := mth 6 0
def d_InvalidRight___init__ : He.DefD := ⟨("InvalidRight", some "__init__"), "__init__", "InvalidRight.__init__", defArgs s_InvalidRight___init__, defBody s_InvalidRight___init__, defScope s_InvalidRight___init__, [], []⟩
abbrev s_InvalidKind___init__ : Stmt := mth 7 0
def d_InvalidKind___init__ : He.DefD := ⟨("InvalidKind", some "__init__"), "__init__", "InvalidKind.__init__", defArgs s_InvalidKind___init__, defBody s_InvalidKind___init__, defScope s_InvalidKind___init__, [], []⟩
abbrev s_InvalidFlag___init__ : Stmt := mth 8 0
def d_InvalidFlag___init__ : He.DefD := ⟨("InvalidFlag", some "__init__"), "__init__", "InvalidFlag.__init__", defArgs s_InvalidFlag___init__, defBody s_InvalidFlag___init__, defScope s_InvalidFlag___init__, [], []⟩
def d_Call___init__ : He.DefD := ⟨("Call", some "__init__"), "__init__", "Call.__init__", defArgs s_Call___init__, defBody s_Call___init__, defScope s_Call___init__, [], []⟩
def d_Give___init__ : He.DefD := ⟨("Give", some "__init__"), "__init__", "Give.__init__", defArgs s_Give___init__, defBody s_Give___init__, defScope s_Give___init__, [], [("option", (.bl false))]⟩
def d_Preset___init__ : He.DefD := ⟨("Preset", some "__init__"), "__init__", "Preset.__init__", defArgs s_Preset___init__, defBody s_Preset___init__, defScope s_Preset___init__, [], [("option", (.bl false))]⟩
def d_Take___init__ : He.DefD := ⟨("Take", some "__init__"), "__init__", "Take.__init__", defArgs s_Take___init__, defBody s_Take___init__, defScope s_Take___init__, [], [("giver", .non), ("only_option", (.bl false)), ("cascade", (.bl false))]⟩
def d_Use___init__ : He.DefD := ⟨("Use", some "__init__"), "__init__", "Use.__init__", defArgs s_Use___init__, defBody s_Use___init__, defScope s_Use___init__, [], []⟩
def d_Deed___init__ : He.DefD := ⟨("Deed", some "__init__"), "__init__", "Deed.__init__", defArgs s_Deed___init__, defBody s_Deed___init__, defScope s_Deed___init__, [], []⟩
def pp : EnvP := {
  fn := [d__law_box, d__law_cell, d__law_flag_due, d__law_is_name, d__law_is_right, d__law_is_taker, d__law_preset_due, d__law_take_due, d__law_due, d_is_name, d_need_name, d_flagged, d_is_flag, d_need_flag, d_is_right, d_need_right, d_is_taker, d_need_taker, d__law_made, d__law_found, d__law_take, d__law_names, d__law_odd, d__law_parts, d_law, d_Deed___init__]
  fc := [d_InvalidName___init__, d_InvalidTaker___init__, d_InvalidRight___init__, d_InvalidKind___init__, d_InvalidFlag___init__, d_Call___init__, d_Give___init__, d_Preset___init__, d_Take___init__, d_Use___init__]
  gs := [("RoleError" : Str), ("MissingError" : Str), ("StateError" : Str), ("InvalidKind" : Str), ("InvalidFlag" : Str), ("InvalidTaker" : Str), ("InvalidRight" : Str), ("InvalidName" : Str), ("Give" : Str), ("Take" : Str), ("Call" : Str), ("Preset" : Str), ("Use" : Str), ("MADE_KINDS" : Str), ("RIGHTS_BY_KIND" : Str), ("RIGHTS" : Str), ("_law_box" : Str), ("_law_cell" : Str), ("_law_flag_due" : Str), ("_law_is_name" : Str), ("_law_is_right" : Str), ("_law_is_taker" : Str), ("_law_preset_due" : Str), ("_law_take_due" : Str), ("_law_due" : Str), ("is_name" : Str), ("need_name" : Str), ("flagged" : Str), ("is_flag" : Str), ("need_flag" : Str), ("is_right" : Str), ("need_right" : Str), ("is_taker" : Str), ("need_taker" : Str), ("_law_made" : Str), ("_law_found" : Str), ("_law_take" : Str), ("_law_names" : Str), ("_law_odd" : Str), ("_law_parts" : Str), ("law" : Str)]
  ss := [("CALLER", "caller"), ("PUBLIC", "public"), ("LETTERS", "abcdefghijklmnopqrstuvwxyz")]
  is_ := []
  fx := [fun K => xfsB K ["InvalidKind"] "value", fun K => xfsB K ["InvalidFlag"] "value", fun K => xfsB K ["InvalidTaker"] "value", fun K => xfsB K ["InvalidRight"] "value", fun K => xfsB K ["InvalidName"] "value", fun K => xtB K xtab hnl, fun K => plainB K ["Give", "Take", "Preset", "Use"] "right", fun K => plainB K ["Give", "Take", "Use"] "thing", fun K => plainB K ["Give", "Take", "Preset"] "taker", fun K => plainB K ["Give", "Preset"] "option", fun K => plainB K ["Call"] "function", fun K => plainB K ["Take"] "giver", fun K => plainB K ["Take"] "only_option", fun K => plainB K ["Take"] "cascade", fun K => He.tupB K "MADE_KINDS" c_MADE_KINDS, fun K => tabDB K "RIGHTS_BY_KIND" c_RIGHTS_BY_KIND, fun K => plainB K ["Preset"] "kind", fun K => plainB K ["Give", "Take", "Call", "Preset", "Use"] "own_words", fun K => He.tupB K "RIGHTS" c_RIGHTS, fun K => mkB K "Call", fun K => mkB K "Give", fun K => mkB K "Preset", fun K => mkB K "Take", fun K => mkB K "Use", fun K => supB K fileS "Call" "Deed", fun K => supB K fileS "Give" "Deed", fun K => supB K fileS "Preset" "Deed", fun K => supB K fileS "Take" "Deed", fun K => supB K fileS "Use" "Deed", fun K => xcB K "InvalidName" "ValueError" "ValueError.__new__" [.type "ValueError", .type "Exception", .type "BaseException", .type "object"], fun K => xiB K fileS "InvalidName" "ValueError.__init__" ["value"], fun K => xcB K "InvalidTaker" "ValueError" "ValueError.__new__" [.type "ValueError", .type "Exception", .type "BaseException", .type "object"], fun K => xiB K fileS "InvalidTaker" "ValueError.__init__" ["value"], fun K => xcB K "InvalidRight" "ValueError" "ValueError.__new__" [.type "ValueError", .type "Exception", .type "BaseException", .type "object"], fun K => xiB K fileS "InvalidRight" "ValueError.__init__" ["value"], fun K => xcB K "InvalidKind" "ValueError" "ValueError.__new__" [.type "ValueError", .type "Exception", .type "BaseException", .type "object"], fun K => xiB K fileS "InvalidKind" "ValueError.__init__" ["value"], fun K => xcB K "InvalidFlag" "ValueError" "ValueError.__new__" [.type "ValueError", .type "Exception", .type "BaseException", .type "object"], fun K => xiB K fileS "InvalidFlag" "ValueError.__init__" ["value"], fun K => isTabB K tabI, fun K => nfB K tabI]
  ts := [(fun K => He.ga K "RIGHTS_BY_KIND", ["role", "table", "function"])] }
end K07
end
section
set_option Elab.async false
set_option linter.all false
set_option maxRecDepth 100000
set_option maxHeartbeats 0
/-! G07: the run of the top. -/
namespace K07
open PySem PySem.Spec L2 VI
abbrev hk : PySem.W.Hook := hookV 4 pp
def ob (s : PySem.W.SharedT) : AlV := obsVG 4 pp (HandSHeadRun.getT s)
theorem ob_eq (s : PySem.W.SharedT) : ob s = hk.obs s.abs := obsVG_eq (HandSHeadRun.getT_eq s)
abbrev RQ (w : World) : Prop := HandSHeadRun.RunEq (PySem.W.OpenLaw.row PySem.Challenge.rw_rolereach_k07_deeds_refused) (PySem.W.view (PySem.W.OpenLaw.row PySem.Challenge.rw_rolereach_k07_deeds_refused).prog [48]) hk ob 8000 [("RoleError" : PySem.Str), ("MissingError" : PySem.Str), ("StateError" : PySem.Str), ("InvalidName" : PySem.Str), ("InvalidTaker" : PySem.Str), ("InvalidRight" : PySem.Str), ("InvalidKind" : PySem.Str), ("InvalidFlag" : PySem.Str), ("LETTERS" : PySem.Str), ("RIGHTS" : PySem.Str), ("RIGHTS_BY_KIND" : PySem.Str), ("PUBLIC" : PySem.Str), ("CALLER" : PySem.Str), ("is_name" : PySem.Str), ("is_taker" : PySem.Str), ("is_right" : PySem.Str), ("is_flag" : PySem.Str), ("MADE_KINDS" : PySem.Str), ("need_name" : PySem.Str), ("need_right" : PySem.Str), ("need_taker" : PySem.Str), ("need_flag" : PySem.Str), ("flagged" : PySem.Str), ("Deed" : PySem.Str), ("Give" : PySem.Str), ("Take" : PySem.Str), ("Call" : PySem.Str), ("Preset" : PySem.Str), ("Use" : PySem.Str), ("_law_cell" : PySem.Str), ("_law_box" : PySem.Str), ("_law_take" : PySem.Str), ("_law_names" : PySem.Str), ("_law_odd" : PySem.Str), ("_law_parts" : PySem.Str), ("_law_is_name" : PySem.Str), ("_law_is_right" : PySem.Str), ("_law_is_taker" : PySem.Str), ("_law_flag_due" : PySem.Str), ("_law_take_due" : PySem.Str), ("_law_preset_due" : PySem.Str), ("_law_due" : PySem.Str), ("_law_made" : PySem.Str), ("_law_found" : PySem.Str)] w
theorem run_f (w : World) : RQ (w.withFollow "special-get-raises" false) := by
  intro os
  kernel_rfl
theorem run_t (w : World) : RQ (w.withFollow "special-get-raises" true) := by
  intro os
  kernel_rfl
theorem run (w : World) : RQ w := PySem.W.byRow2 "special-get-raises" (P := RQ) run_f run_t w
end K07
end
section
set_option Elab.async false
set_option linter.all false
set_option maxRecDepth 100000
set_option maxHeartbeats 2000000
/-! L07: facts, derivations. -/
namespace K07
open PySem PySem.Spec L2 VI
section
variable {P : Program} {w : World} {K : PySem.W.Frag} {mg : Str → Option Value} {base : Heap}
theorem x_0 (env : EnvW K w mg pp) : xfsB K ["InvalidKind"] "value" = true := env.ext (f := fun K => xfsB K ["InvalidKind"] "value") 0
theorem x_1 (env : EnvW K w mg pp) : xfsB K ["InvalidFlag"] "value" = true := env.ext (f := fun K => xfsB K ["InvalidFlag"] "value") 1
theorem x_2 (env : EnvW K w mg pp) : xfsB K ["InvalidTaker"] "value" = true := env.ext (f := fun K => xfsB K ["InvalidTaker"] "value") 2
theorem x_3 (env : EnvW K w mg pp) : xfsB K ["InvalidRight"] "value" = true := env.ext (f := fun K => xfsB K ["InvalidRight"] "value") 3
theorem x_4 (env : EnvW K w mg pp) : xfsB K ["InvalidName"] "value" = true := env.ext (f := fun K => xfsB K ["InvalidName"] "value") 4
theorem x_5 (env : EnvW K w mg pp) : xtB K xtab hnl = true := env.ext (f := fun K => xtB K xtab hnl) 5
theorem x_6 (env : EnvW K w mg pp) : plainB K ["Give", "Take", "Preset", "Use"] "right" = true := env.ext (f := fun K => plainB K ["Give", "Take", "Preset", "Use"] "right") 6
theorem x_7 (env : EnvW K w mg pp) : plainB K ["Give", "Take", "Use"] "thing" = true := env.ext (f := fun K => plainB K ["Give", "Take", "Use"] "thing") 7
theorem x_8 (env : EnvW K w mg pp) : plainB K ["Give", "Take", "Preset"] "taker" = true := env.ext (f := fun K => plainB K ["Give", "Take", "Preset"] "taker") 8
theorem x_9 (env : EnvW K w mg pp) : plainB K ["Give", "Preset"] "option" = true := env.ext (f := fun K => plainB K ["Give", "Preset"] "option") 9
theorem x_10 (env : EnvW K w mg pp) : plainB K ["Call"] "function" = true := env.ext (f := fun K => plainB K ["Call"] "function") 10
theorem x_11 (env : EnvW K w mg pp) : plainB K ["Take"] "giver" = true := env.ext (f := fun K => plainB K ["Take"] "giver") 11
theorem x_12 (env : EnvW K w mg pp) : plainB K ["Take"] "only_option" = true := env.ext (f := fun K => plainB K ["Take"] "only_option") 12
theorem x_13 (env : EnvW K w mg pp) : plainB K ["Take"] "cascade" = true := env.ext (f := fun K => plainB K ["Take"] "cascade") 13
theorem x_14 (env : EnvW K w mg pp) : He.tupB K "MADE_KINDS" c_MADE_KINDS = true := env.ext (f := fun K => He.tupB K "MADE_KINDS" c_MADE_KINDS) 14
theorem x_15 (env : EnvW K w mg pp) : tabDB K "RIGHTS_BY_KIND" c_RIGHTS_BY_KIND = true := env.ext (f := fun K => tabDB K "RIGHTS_BY_KIND" c_RIGHTS_BY_KIND) 15
theorem x_16 (env : EnvW K w mg pp) : plainB K ["Preset"] "kind" = true := env.ext (f := fun K => plainB K ["Preset"] "kind") 16
theorem x_17 (env : EnvW K w mg pp) : plainB K ["Give", "Take", "Call", "Preset", "Use"] "own_words" = true := env.ext (f := fun K => plainB K ["Give", "Take", "Call", "Preset", "Use"] "own_words") 17
theorem x_18 (env : EnvW K w mg pp) : He.tupB K "RIGHTS" c_RIGHTS = true := env.ext (f := fun K => He.tupB K "RIGHTS" c_RIGHTS) 18
theorem x_19 (env : EnvW K w mg pp) : mkB K "Call" = true := env.ext (f := fun K => mkB K "Call") 19
theorem x_20 (env : EnvW K w mg pp) : mkB K "Give" = true := env.ext (f := fun K => mkB K "Give") 20
theorem x_21 (env : EnvW K w mg pp) : mkB K "Preset" = true := env.ext (f := fun K => mkB K "Preset") 21
theorem x_22 (env : EnvW K w mg pp) : mkB K "Take" = true := env.ext (f := fun K => mkB K "Take") 22
theorem x_23 (env : EnvW K w mg pp) : mkB K "Use" = true := env.ext (f := fun K => mkB K "Use") 23
theorem x_24 (env : EnvW K w mg pp) : supB K fileS "Call" "Deed" = true := env.ext (f := fun K => supB K fileS "Call" "Deed") 24
theorem x_25 (env : EnvW K w mg pp) : supB K fileS "Give" "Deed" = true := env.ext (f := fun K => supB K fileS "Give" "Deed") 25
theorem x_26 (env : EnvW K w mg pp) : supB K fileS "Preset" "Deed" = true := env.ext (f := fun K => supB K fileS "Preset" "Deed") 26
theorem x_27 (env : EnvW K w mg pp) : supB K fileS "Take" "Deed" = true := env.ext (f := fun K => supB K fileS "Take" "Deed") 27
theorem x_28 (env : EnvW K w mg pp) : supB K fileS "Use" "Deed" = true := env.ext (f := fun K => supB K fileS "Use" "Deed") 28
theorem x_29 (env : EnvW K w mg pp) : xcB K "InvalidName" "ValueError" "ValueError.__new__" [.type "ValueError", .type "Exception", .type "BaseException", .type "object"] = true := env.ext (f := fun K => xcB K "InvalidName" "ValueError" "ValueError.__new__" [.type "ValueError", .type "Exception", .type "BaseException", .type "object"]) 29
theorem x_30 (env : EnvW K w mg pp) : xiB K fileS "InvalidName" "ValueError.__init__" ["value"] = true := env.ext (f := fun K => xiB K fileS "InvalidName" "ValueError.__init__" ["value"]) 30
theorem x_31 (env : EnvW K w mg pp) : xcB K "InvalidTaker" "ValueError" "ValueError.__new__" [.type "ValueError", .type "Exception", .type "BaseException", .type "object"] = true := env.ext (f := fun K => xcB K "InvalidTaker" "ValueError" "ValueError.__new__" [.type "ValueError", .type "Exception", .type "BaseException", .type "object"]) 31
theorem x_32 (env : EnvW K w mg pp) : xiB K fileS "InvalidTaker" "ValueError.__init__" ["value"] = true := env.ext (f := fun K => xiB K fileS "InvalidTaker" "ValueError.__init__" ["value"]) 32
theorem x_33 (env : EnvW K w mg pp) : xcB K "InvalidRight" "ValueError" "ValueError.__new__" [.type "ValueError", .type "Exception", .type "BaseException", .type "object"] = true := env.ext (f := fun K => xcB K "InvalidRight" "ValueError" "ValueError.__new__" [.type "ValueError", .type "Exception", .type "BaseException", .type "object"]) 33
theorem x_34 (env : EnvW K w mg pp) : xiB K fileS "InvalidRight" "ValueError.__init__" ["value"] = true := env.ext (f := fun K => xiB K fileS "InvalidRight" "ValueError.__init__" ["value"]) 34
theorem x_35 (env : EnvW K w mg pp) : xcB K "InvalidKind" "ValueError" "ValueError.__new__" [.type "ValueError", .type "Exception", .type "BaseException", .type "object"] = true := env.ext (f := fun K => xcB K "InvalidKind" "ValueError" "ValueError.__new__" [.type "ValueError", .type "Exception", .type "BaseException", .type "object"]) 35
theorem x_36 (env : EnvW K w mg pp) : xiB K fileS "InvalidKind" "ValueError.__init__" ["value"] = true := env.ext (f := fun K => xiB K fileS "InvalidKind" "ValueError.__init__" ["value"]) 36
theorem x_37 (env : EnvW K w mg pp) : xcB K "InvalidFlag" "ValueError" "ValueError.__new__" [.type "ValueError", .type "Exception", .type "BaseException", .type "object"] = true := env.ext (f := fun K => xcB K "InvalidFlag" "ValueError" "ValueError.__new__" [.type "ValueError", .type "Exception", .type "BaseException", .type "object"]) 37
theorem x_38 (env : EnvW K w mg pp) : xiB K fileS "InvalidFlag" "ValueError.__init__" ["value"] = true := env.ext (f := fun K => xiB K fileS "InvalidFlag" "ValueError.__init__" ["value"]) 38
theorem x_39 (env : EnvW K w mg pp) : isTabB K tabI = true := env.ext (f := fun K => isTabB K tabI) 39
theorem x_40 (env : EnvW K w mg pp) : nfB K tabI = true := env.ext (f := fun K => nfB K tabI) 40
theorem x_is (env : EnvW K w mg pp) : IsOk K tabI := isOk_of (x_39 env)
theorem x_nf (env : EnvW K w mg pp) : NfOk K tabI := nfOk_of (x_40 env)
theorem y_RIGHTS_BY_KIND (env : EnvW K w mg pp) : ∃ es n, KDict K w (He.ga K "RIGHTS_BY_KIND") es n := env.tabs 0 (fun K => He.ga K "RIGHTS_BY_KIND", ["role", "table", "function"]) rfl
theorem sc_InvalidName___init__ : NdefX.NScope ["self", "value", "__class__"] ["self", "value"] ["__class__"] (defScope s_InvalidName___init__) := NdefX.nscope_by (by decide +kernel)
theorem o_InvalidName___init__' (env : EnvW K w mg pp) (pf : PrgF P fileS) {fd : FuncData} (F : FunC K "__init__" "InvalidName.__init__" (defArgs s_InvalidName___init__) (defBody s_InvalidName___init__) (defScope s_InvalidName___init__) [] [] (ccAt K ("InvalidName", some "__init__")) (He.fAd K ("InvalidName", some "__init__")) fd) : VI.FnOk P w K mg base (CV P w) 1 (He.fAd K ("InvalidName", some "__init__")) fd ["self", "value"] (spX (He.ga K "InvalidName") "value" []) := by
  have xf := xi_of (x_30 env)
  have xc := xc_of xb_VE (x_29 env)
  have SC := sc_InvalidName___init__
  refine initX_ok F SC xf.cc xf.code pf xf.cls xf.stat rfl rfl (fun _ _ _ _ h => spX_len h) fun c A outer s H E sup => ?_
  exact ⟨_, pat_cons (p1_xsup sup xc xf.sup (pa_cons pe_str pa_nil) env.f_super) (pat_all (pss_one (ps_xst xc (xf.tk "value" (by simp)) (pe_var (i := 0) rfl (Or.inl rfl)) (pe_var (i := 1) rfl (Or.inl rfl))))), fun _ _ _ _ h => x1_spec h⟩
theorem k_xc_InvalidName (env : EnvW K w mg pp) (pf : PrgF P fileS) : XcP P w K mg base 1 "InvalidName" "value" [] := by
  obtain ⟨fd, F⟩ := env.supr 0 d_InvalidName___init__ rfl
  replace F : FunC K "__init__" "InvalidName.__init__" (defArgs s_InvalidName___init__) (defBody s_InvalidName___init__) (defScope s_InvalidName___init__) [] [] (ccAt K ("InvalidName", some "__init__")) (He.fAd K ("InvalidName", some "__init__")) fd := F
  have hb := F.bN (ps := ["self", "value"]) fun _ _ _ _ _ _ us hl => match us, hl with | [_, _], _ => rfl
  exact ⟨_, _, _, _, _, fd, _, xc_of xb_VE (x_29 env), (xi_of (x_30 env)).init, (xi_of (x_30 env)).ty, o_InvalidName___init__' (P := P) (w := w) (base := base) env pf F, hb, env.at_ 7⟩
theorem sc_InvalidTaker___init__ : NdefX.NScope ["self", "value", "__class__"] ["self", "value"] ["__class__"] (defScope s_InvalidTaker___init__) := NdefX.nscope_by (by decide +kernel)
theorem o_InvalidTaker___init__' (env : EnvW K w mg pp) (pf : PrgF P fileS) {fd : FuncData} (F : FunC K "__init__" "InvalidTaker.__init__" (defArgs s_InvalidTaker___init__) (defBody s_InvalidTaker___init__) (defScope s_InvalidTaker___init__) [] [] (ccAt K ("InvalidTaker", some "__init__")) (He.fAd K ("InvalidTaker", some "__init__")) fd) : VI.FnOk P w K mg base (CV P w) 1 (He.fAd K ("InvalidTaker", some "__init__")) fd ["self", "value"] (spX (He.ga K "InvalidTaker") "value" []) := by
  have xf := xi_of (x_32 env)
  have xc := xc_of xb_VE (x_31 env)
  have SC := sc_InvalidTaker___init__
  refine initX_ok F SC xf.cc xf.code pf xf.cls xf.stat rfl rfl (fun _ _ _ _ h => spX_len h) fun c A outer s H E sup => ?_
  exact ⟨_, pat_cons (p1_xsup sup xc xf.sup (pa_cons pe_str pa_nil) env.f_super) (pat_all (pss_one (ps_xst xc (xf.tk "value" (by simp)) (pe_var (i := 0) rfl (Or.inl rfl)) (pe_var (i := 1) rfl (Or.inl rfl))))), fun _ _ _ _ h => x1_spec h⟩
theorem k_xc_InvalidTaker (env : EnvW K w mg pp) (pf : PrgF P fileS) : XcP P w K mg base 1 "InvalidTaker" "value" [] := by
  obtain ⟨fd, F⟩ := env.supr 1 d_InvalidTaker___init__ rfl
  replace F : FunC K "__init__" "InvalidTaker.__init__" (defArgs s_InvalidTaker___init__) (defBody s_InvalidTaker___init__) (defScope s_InvalidTaker___init__) [] [] (ccAt K ("InvalidTaker", some "__init__")) (He.fAd K ("InvalidTaker", some "__init__")) fd := F
  have hb := F.bN (ps := ["self", "value"]) fun _ _ _ _ _ _ us hl => match us, hl with | [_, _], _ => rfl
  exact ⟨_, _, _, _, _, fd, _, xc_of xb_VE (x_31 env), (xi_of (x_32 env)).init, (xi_of (x_32 env)).ty, o_InvalidTaker___init__' (P := P) (w := w) (base := base) env pf F, hb, env.at_ 5⟩
theorem sc_InvalidRight___init__ : NdefX.NScope ["self", "value", "__class__"] ["self", "value"] ["__class__"] (defScope s_InvalidRight___init__) := NdefX.nscope_by (by decide +kernel)
theorem o_InvalidRight___init__' (env : EnvW K w mg pp) (pf : PrgF P fileS) {fd : FuncData} (F : FunC K "__init__" "InvalidRight.__init__" (defArgs s_InvalidRight___init__) (defBody s_InvalidRight___init__) (defScope s_InvalidRight___init__) [] [] (ccAt K ("InvalidRight", some "__init__")) (He.fAd K ("InvalidRight", some "__init__")) fd) : VI.FnOk P w K mg base (CV P w) 1 (He.fAd K ("InvalidRight", some "__init__")) fd ["self", "value"] (spX (He.ga K "InvalidRight") "value" []) := by
  have xf := xi_of (x_34 env)
  have xc := xc_of xb_VE (x_33 env)
  have SC := sc_InvalidRight___init__
  refine initX_ok F SC xf.cc xf.code pf xf.cls xf.stat rfl rfl (fun _ _ _ _ h => spX_len h) fun c A outer s H E sup => ?_
  exact ⟨_, pat_cons (p1_xsup sup xc xf.sup (pa_cons pe_str pa_nil) env.f_super) (pat_all (pss_one (ps_xst xc (xf.tk "value" (by simp)) (pe_var (i := 0) rfl (Or.inl rfl)) (pe_var (i := 1) rfl (Or.inl rfl))))), fun _ _ _ _ h => x1_spec h⟩
theorem k_xc_InvalidRight (env : EnvW K w mg pp) (pf : PrgF P fileS) : XcP P w K mg base 1 "InvalidRight" "value" [] := by
  obtain ⟨fd, F⟩ := env.supr 2 d_InvalidRight___init__ rfl
  replace F : FunC K "__init__" "InvalidRight.__init__" (defArgs s_InvalidRight___init__) (defBody s_InvalidRight___init__) (defScope s_InvalidRight___init__) [] [] (ccAt K ("InvalidRight", some "__init__")) (He.fAd K ("InvalidRight", some "__init__")) fd := F
  have hb := F.bN (ps := ["self", "value"]) fun _ _ _ _ _ _ us hl => match us, hl with | [_, _], _ => rfl
  exact ⟨_, _, _, _, _, fd, _, xc_of xb_VE (x_33 env), (xi_of (x_34 env)).init, (xi_of (x_34 env)).ty, o_InvalidRight___init__' (P := P) (w := w) (base := base) env pf F, hb, env.at_ 6⟩
theorem sc_InvalidKind___init__ : NdefX.NScope ["self", "value", "__class__"] ["self", "value"] ["__class__"] (defScope s_InvalidKind___init__) := NdefX.nscope_by (by decide +kernel)
theorem o_InvalidKind___init__' (env : EnvW K w mg pp) (pf : PrgF P fileS) {fd : FuncData} (F : FunC K "__init__" "InvalidKind.__init__" (defArgs s_InvalidKind___init__) (defBody s_InvalidKind___init__) (defScope s_InvalidKind___init__) [] [] (ccAt K ("InvalidKind", some "__init__")) (He.fAd K ("InvalidKind", some "__init__")) fd) : VI.FnOk P w K mg base (CV P w) 1 (He.fAd K ("InvalidKind", some "__init__")) fd ["self", "value"] (spX (He.ga K "InvalidKind") "value" []) := by
  have xf := xi_of (x_36 env)
  have xc := xc_of xb_VE (x_35 env)
  have SC := sc_InvalidKind___init__
  refine initX_ok F SC xf.cc xf.code pf xf.cls xf.stat rfl rfl (fun _ _ _ _ h => spX_len h) fun c A outer s H E sup => ?_
  exact ⟨_, pat_cons (p1_xsup sup xc xf.sup (pa_cons pe_str pa_nil) env.f_super) (pat_all (pss_one (ps_xst xc (xf.tk "value" (by simp)) (pe_var (i := 0) rfl (Or.inl rfl)) (pe_var (i := 1) rfl (Or.inl rfl))))), fun _ _ _ _ h => x1_spec h⟩
theorem k_xc_InvalidKind (env : EnvW K w mg pp) (pf : PrgF P fileS) : XcP P w K mg base 1 "InvalidKind" "value" [] := by
  obtain ⟨fd, F⟩ := env.supr 3 d_InvalidKind___init__ rfl
  replace F : FunC K "__init__" "InvalidKind.__init__" (defArgs s_InvalidKind___init__) (defBody s_InvalidKind___init__) (defScope s_InvalidKind___init__) [] [] (ccAt K ("InvalidKind", some "__init__")) (He.fAd K ("InvalidKind", some "__init__")) fd := F
  have hb := F.bN (ps := ["self", "value"]) fun _ _ _ _ _ _ us hl => match us, hl with | [_, _], _ => rfl
  exact ⟨_, _, _, _, _, fd, _, xc_of xb_VE (x_35 env), (xi_of (x_36 env)).init, (xi_of (x_36 env)).ty, o_InvalidKind___init__' (P := P) (w := w) (base := base) env pf F, hb, env.at_ 3⟩
theorem sc_InvalidFlag___init__ : NdefX.NScope ["self", "value", "__class__"] ["self", "value"] ["__class__"] (defScope s_InvalidFlag___init__) := NdefX.nscope_by (by decide +kernel)
theorem o_InvalidFlag___init__' (env : EnvW K w mg pp) (pf : PrgF P fileS) {fd : FuncData} (F : FunC K "__init__" "InvalidFlag.__init__" (defArgs s_InvalidFlag___init__) (defBody s_InvalidFlag___init__) (defScope s_InvalidFlag___init__) [] [] (ccAt K ("InvalidFlag", some "__init__")) (He.fAd K ("InvalidFlag", some "__init__")) fd) : VI.FnOk P w K mg base (CV P w) 1 (He.fAd K ("InvalidFlag", some "__init__")) fd ["self", "value"] (spX (He.ga K "InvalidFlag") "value" []) := by
  have xf := xi_of (x_38 env)
  have xc := xc_of xb_VE (x_37 env)
  have SC := sc_InvalidFlag___init__
  refine initX_ok F SC xf.cc xf.code pf xf.cls xf.stat rfl rfl (fun _ _ _ _ h => spX_len h) fun c A outer s H E sup => ?_
  exact ⟨_, pat_cons (p1_xsup sup xc xf.sup (pa_cons pe_str pa_nil) env.f_super) (pat_all (pss_one (ps_xst xc (xf.tk "value" (by simp)) (pe_var (i := 0) rfl (Or.inl rfl)) (pe_var (i := 1) rfl (Or.inl rfl))))), fun _ _ _ _ h => x1_spec h⟩
theorem k_xc_InvalidFlag (env : EnvW K w mg pp) (pf : PrgF P fileS) : XcP P w K mg base 1 "InvalidFlag" "value" [] := by
  obtain ⟨fd, F⟩ := env.supr 4 d_InvalidFlag___init__ rfl
  replace F : FunC K "__init__" "InvalidFlag.__init__" (defArgs s_InvalidFlag___init__) (defBody s_InvalidFlag___init__) (defScope s_InvalidFlag___init__) [] [] (ccAt K ("InvalidFlag", some "__init__")) (He.fAd K ("InvalidFlag", some "__init__")) fd := F
  have hb := F.bN (ps := ["self", "value"]) fun _ _ _ _ _ _ us hl => match us, hl with | [_, _], _ => rfl
  exact ⟨_, _, _, _, _, fd, _, xc_of xb_VE (x_37 env), (xi_of (x_38 env)).init, (xi_of (x_38 env)).ty, o_InvalidFlag___init__' (P := P) (w := w) (base := base) env pf F, hb, env.at_ 4⟩
theorem sc__law_box : FnScope ["_law_cell_here"] ["_law_cell_here"] (defScope s__law_box) := ⟨rfl, rfl, rfl, by decide +kernel, rfl, by decide +kernel, by decide +kernel⟩
theorem o__law_box' (env : EnvW K w mg pp) (pf : PrgF P fileS) {a : Addr} {fd : FuncData} (F : FunD K "_law_box" "_law_box" (defArgs s__law_box) (defBody s__law_box) (defScope s__law_box) [] [] a fd) : VI.FnOk P w K mg base (CV P w) 1 a fd ["_law_cell_here"] (spOf K f__law_box) := by
  have SC := sc__law_box
  refine fn_ok F SC fun cdv A outer s H E hr bx => ?_
  exact ⟨_, (sss_one (ss_ret (se_lst (sa_cons (se_max env.f_max (sv_cons se_int (sv_cons (se_sub (se_var 0) (se_pow se_int se_int)) sv_nil))) (sa_cons (se_mod (se_var 0) se_int) (sa_cons se_int sa_nil))))))⟩
theorem k__law_box_1 (env : EnvW K w mg pp) (pf : PrgF P fileS) : FnP P w K mg base 1 "_law_box" [] f__law_box := by
  obtain ⟨fd, F⟩ := env.defs 0 d__law_box rfl
  replace F : FunD K "_law_box" "_law_box" (defArgs s__law_box) (defBody s__law_box) (defScope s__law_box) [] [] (He.ga K "_law_box") fd := F
  have hb := F.bindsN (ps := ["_law_cell_here"]) fun _ _ _ _ _ _ us hl => match us, hl with | [_], _ => rfl
  exact ⟨_, fd, _, _, o__law_box' (P := P) (w := w) (base := base) env pf F, env.at_ 16, F.kp, hb, .nil, rfl⟩
theorem sc__law_cell : FnScope ["_law_script", "_law_k"] ["_law_script", "_law_k"] (defScope s__law_cell) := ⟨rfl, rfl, rfl, by decide +kernel, rfl, by decide +kernel, by decide +kernel⟩
theorem o__law_cell' (env : EnvW K w mg pp) (pf : PrgF P fileS) {a : Addr} {fd : FuncData} (F : FunD K "_law_cell" "_law_cell" (defArgs s__law_cell) (defBody s__law_cell) (defScope s__law_cell) [] [] a fd) : VI.FnOk P w K mg base (CV P w) 1 a fd ["_law_script", "_law_k"] (spOf K f__law_cell) := by
  have SC := sc__law_cell
  refine fn_ok F SC fun cdv A outer s H E hr bx => ?_
  exact ⟨_, (sss_one (ss_ret (se_if (st_lt (se_var 1) (se_len env.f_len (sv_cons (se_var 0) sv_nil))) (se_ix (room1 hr) (se_var 0) (se_var 1)) (se_add (se_mul se_int (se_var 1)) se_int))))⟩
theorem k__law_cell_2 (env : EnvW K w mg pp) (pf : PrgF P fileS) : FnP P w K mg base 1 "_law_cell" [] f__law_cell := by
  obtain ⟨fd, F⟩ := env.defs 1 d__law_cell rfl
  replace F : FunD K "_law_cell" "_law_cell" (defArgs s__law_cell) (defBody s__law_cell) (defScope s__law_cell) [] [] (He.ga K "_law_cell") fd := F
  have hb := F.bindsN (ps := ["_law_script", "_law_k"]) fun _ _ _ _ _ _ us hl => match us, hl with | [_, _], _ => rfl
  exact ⟨_, fd, _, _, o__law_cell' (P := P) (w := w) (base := base) env pf F, env.at_ 17, F.kp, hb, .nil, rfl⟩
theorem sc__law_flag_due : FnScope ["_law_value", "_law_taker"] ["_law_value", "_law_taker"] (defScope s__law_flag_due) := ⟨rfl, rfl, rfl, by decide +kernel, rfl, by decide +kernel, by decide +kernel⟩
theorem o__law_flag_due' (env : EnvW K w mg pp) (pf : PrgF P fileS) {a : Addr} {fd : FuncData} (F : FunD K "_law_flag_due" "_law_flag_due" (defArgs s__law_flag_due) (defBody s__law_flag_due) (defScope s__law_flag_due) [] [] a fd) : VI.FnOk P w K mg base (CV P w) 1 a fd ["_law_value", "_law_taker"] (spOf K f__law_flag_due) := by
  have SC := sc__law_flag_due
  refine fn_ok F SC fun cdv A outer s H E hr bx => ?_
  exact ⟨_, (sss_cons (ss_if (SW.st (sw_or (st_not (st_val (se_isi env.f_isinstance (sv_cons (se_var 0) (sv_cons (se_tyv PyProof.Rows.boot_bool env.f_bool) sv_nil))))) (sw_or1 (SW.st (sw_and (st_val (se_var 0)) (sw_and1 (st_eqD hr.units (se_var 1) se_str))))))) (sss_one (ss_ret (se_lst (sa_cons se_str (sa_cons (se_var 0) sa_nil))))) sss_nil) (sss_one (ss_ret (se_lst (sa_cons se_str (sa_cons se_non sa_nil))))))⟩
theorem k__law_flag_due_2 (env : EnvW K w mg pp) (pf : PrgF P fileS) : FnP P w K mg base 1 "_law_flag_due" [] f__law_flag_due := by
  obtain ⟨fd, F⟩ := env.defs 2 d__law_flag_due rfl
  replace F : FunD K "_law_flag_due" "_law_flag_due" (defArgs s__law_flag_due) (defBody s__law_flag_due) (defScope s__law_flag_due) [] [] (He.ga K "_law_flag_due") fd := F
  have hb := F.bindsN (ps := ["_law_value", "_law_taker"]) fun _ _ _ _ _ _ us hl => match us, hl with | [_, _], _ => rfl
  exact ⟨_, fd, _, _, o__law_flag_due' (P := P) (w := w) (base := base) env pf F, env.at_ 18, F.kp, hb, .nil, rfl⟩
theorem sc__law_is_name : FnScope ["_law_value", "_law_sign"] ["_law_value"] (defScope s__law_is_name) := ⟨rfl, rfl, rfl, by decide +kernel, rfl, by decide +kernel, by decide +kernel⟩
theorem o__law_is_name' (env : EnvW K w mg pp) (pf : PrgF P fileS) {a : Addr} {fd : FuncData} (F : FunD K "_law_is_name" "_law_is_name" (defArgs s__law_is_name) (defBody s__law_is_name) (defScope s__law_is_name) [] [] a fd) : VI.FnOk P w K mg base (CV P w) 1 a fd ["_law_value"] (spOf K f__law_is_name) := by
  have SC := sc__law_is_name
  refine fn_ok F SC fun cdv A outer s H E hr bx => ?_
  exact ⟨_, (sss_cons (ss_if (SW.st (sw_or (st_not (st_val (se_isi env.f_isinstance (sv_cons (se_var 0) (sv_cons (se_tyv PyProof.Rows.boot_str env.f_str) sv_nil))))) (sw_or (st_not (st_chain op_leX op_leX ops_le ops_le se_int (se_len env.f_len (sv_cons (se_var 0) sv_nil)) se_int)) (sw_or1 (st_in hr.units (se_var 0) (se_lst (sa_cons se_str (sa_cons se_str sa_nil)))))))) (sss_one (ss_ret se_bl)) sss_nil) (sss_one (ss_ret (se_eqD hr.units (se_comp [("_law_sign", 1)] SC.nd (si_any (se_var 0)) (fun _ _ _ _ _ => (sg_name 1 SC.nd)) (fun _ _ _ _ _ => (sts_one (st_not (st_chain op_leX op_leX ops_le ops_le se_str (se_var 1) se_str)))) (fun _ _ _ _ _ => (se_var 1))) (se_lst sa_nil)))))⟩
theorem k__law_is_name_1 (env : EnvW K w mg pp) (pf : PrgF P fileS) : FnP P w K mg base 1 "_law_is_name" [] f__law_is_name := by
  obtain ⟨fd, F⟩ := env.defs 3 d__law_is_name rfl
  replace F : FunD K "_law_is_name" "_law_is_name" (defArgs s__law_is_name) (defBody s__law_is_name) (defScope s__law_is_name) [] [] (He.ga K "_law_is_name") fd := F
  have hb := F.bindsN (ps := ["_law_value"]) fun _ _ _ _ _ _ us hl => match us, hl with | [_], _ => rfl
  exact ⟨_, fd, _, _, o__law_is_name' (P := P) (w := w) (base := base) env pf F, env.at_ 19, F.kp, hb, .nil, rfl⟩
theorem sc__law_is_right : FnScope ["_law_value"] ["_law_value"] (defScope s__law_is_right) := ⟨rfl, rfl, rfl, by decide +kernel, rfl, by decide +kernel, by decide +kernel⟩
theorem o__law_is_right' (env : EnvW K w mg pp) (pf : PrgF P fileS) {a : Addr} {fd : FuncData} (F : FunD K "_law_is_right" "_law_is_right" (defArgs s__law_is_right) (defBody s__law_is_right) (defScope s__law_is_right) [] [] a fd) : VI.FnOk P w K mg base (CV P w) 1 a fd ["_law_value"] (spOf K f__law_is_right) := by
  have SC := sc__law_is_right
  refine fn_ok F SC fun cdv A outer s H E hr bx => ?_
  exact ⟨_, (sss_one (ss_ret (se_and (se_isi env.f_isinstance (sv_cons (se_var 0) (sv_cons (se_tyv PyProof.Rows.boot_str env.f_str) sv_nil))) (se_one (se_in hr.units (se_var 0) (se_lst (sa_cons se_str (sa_cons se_str (sa_cons se_str (sa_cons se_str (sa_cons se_str sa_nil)))))))))))⟩
theorem k__law_is_right_1 (env : EnvW K w mg pp) (pf : PrgF P fileS) : FnP P w K mg base 1 "_law_is_right" [] f__law_is_right := by
  obtain ⟨fd, F⟩ := env.defs 4 d__law_is_right rfl
  replace F : FunD K "_law_is_right" "_law_is_right" (defArgs s__law_is_right) (defBody s__law_is_right) (defScope s__law_is_right) [] [] (He.ga K "_law_is_right") fd := F
  have hb := F.bindsN (ps := ["_law_value"]) fun _ _ _ _ _ _ us hl => match us, hl with | [_], _ => rfl
  exact ⟨_, fd, _, _, o__law_is_right' (P := P) (w := w) (base := base) env pf F, env.at_ 20, F.kp, hb, .nil, rfl⟩
theorem sc__law_is_taker : FnScope ["_law_value"] ["_law_value"] (defScope s__law_is_taker) := ⟨rfl, rfl, rfl, by decide +kernel, rfl, by decide +kernel, by decide +kernel⟩
theorem o__law_is_taker' (env : EnvW K w mg pp) (pf : PrgF P fileS) {a : Addr} {fd : FuncData} (F : FunD K "_law_is_taker" "_law_is_taker" (defArgs s__law_is_taker) (defBody s__law_is_taker) (defScope s__law_is_taker) [] [] a fd) : VI.FnOk P w K mg base (CV P w) 2 a fd ["_law_value"] (spOf K f__law_is_taker) := by
  have h__law_is_name_1 := (k__law_is_name_1 (P := P) (w := w) (base := base) env pf).mono (k := 1) (by decide)
  have SC := sc__law_is_taker
  refine fn_ok F SC fun cdv A outer s H E hr bx => ?_
  exact ⟨_, (sss_one (ss_ret (se_or (se_call h__law_is_name_1 hr bx.at_ (sa_cons (se_var 0) sa_nil)) (se_one (se_eqD hr.units (se_var 0) se_str)))))⟩
theorem k__law_is_taker_1 (env : EnvW K w mg pp) (pf : PrgF P fileS) : FnP P w K mg base 2 "_law_is_taker" [] f__law_is_taker := by
  obtain ⟨fd, F⟩ := env.defs 5 d__law_is_taker rfl
  replace F : FunD K "_law_is_taker" "_law_is_taker" (defArgs s__law_is_taker) (defBody s__law_is_taker) (defScope s__law_is_taker) [] [] (He.ga K "_law_is_taker") fd := F
  have hb := F.bindsN (ps := ["_law_value"]) fun _ _ _ _ _ _ us hl => match us, hl with | [_], _ => rfl
  exact ⟨_, fd, _, _, o__law_is_taker' (P := P) (w := w) (base := base) env pf F, env.at_ 21, F.kp, hb, .nil, rfl⟩
theorem sc__law_preset_due : FnScope ["_law_row", "_law_rights"] ["_law_row"] (defScope s__law_preset_due) := ⟨rfl, rfl, rfl, by decide +kernel, rfl, by decide +kernel, by decide +kernel⟩
theorem o__law_preset_due' (env : EnvW K w mg pp) (pf : PrgF P fileS) {a : Addr} {fd : FuncData} (F : FunD K "_law_preset_due" "_law_preset_due" (defArgs s__law_preset_due) (defBody s__law_preset_due) (defScope s__law_preset_due) [] [] a fd) : VI.FnOk P w K mg base (CV P w) 3 a fd ["_law_row"] (spOf K f__law_preset_due) := by
  have h__law_flag_due_2 := (k__law_flag_due_2 (P := P) (w := w) (base := base) env pf).mono (k := 2) (by decide)
  have h__law_is_taker_1 := (k__law_is_taker_1 (P := P) (w := w) (base := base) env pf).mono (k := 2) (by decide)
  have SC := sc__law_preset_due
  refine fn_ok F SC fun cdv A outer s H E hr bx => ?_
  exact ⟨_, (sss_cons (ss_how .own 1 (se_disp (sp_str (se_lst (sa_cons se_str (sa_cons se_str sa_nil))) (sp_str (se_lst (sa_cons se_str sa_nil)) sp_nil))) SC.nd) (sss_cons (ss_if (SW.st (sw_or (st_not (st_val (se_isi env.f_isinstance (sv_cons (se_ix (room1 hr) (se_var 0) se_int) (sv_cons (se_tyv PyProof.Rows.boot_str env.f_str) sv_nil))))) (sw_or1 (st_notin hr.units (se_ix (room1 hr) (se_var 0) se_int) (se_var 1))))) (sss_one (ss_ret (se_lst (sa_cons se_str (sa_cons (se_ix (room1 hr) (se_var 0) se_int) sa_nil))))) sss_nil) (sss_cons (ss_if (SW.st (sw_or (st_not (st_val (se_isi env.f_isinstance (sv_cons (se_ix (room1 hr) (se_var 0) se_int) (sv_cons (se_tyv PyProof.Rows.boot_str env.f_str) sv_nil))))) (sw_or1 (st_notin hr.units (se_ix (room1 hr) (se_var 0) se_int) (se_ix (room1 hr) (se_var 1) (se_ix (room1 hr) (se_var 0) se_int)))))) (sss_one (ss_ret (se_lst (sa_cons se_str (sa_cons (se_ix (room1 hr) (se_var 0) se_int) sa_nil))))) sss_nil) (sss_cons (ss_if (st_not (st_val (se_call h__law_is_taker_1 hr bx.at_ (sa_cons (se_ix (room1 hr) (se_var 0) se_int) sa_nil)))) (sss_one (ss_ret (se_lst (sa_cons se_str (sa_cons (se_ix (room1 hr) (se_var 0) se_int) sa_nil))))) sss_nil) (sss_one (ss_ret (se_call h__law_flag_due_2 hr bx.at_ (sa_cons (se_ix (room1 hr) (se_var 0) se_int) (sa_cons (se_ix (room1 hr) (se_var 0) se_int) sa_nil)))))))))⟩
theorem k__law_preset_due_1 (env : EnvW K w mg pp) (pf : PrgF P fileS) : FnP P w K mg base 3 "_law_preset_due" [] f__law_preset_due := by
  obtain ⟨fd, F⟩ := env.defs 6 d__law_preset_due rfl
  replace F : FunD K "_law_preset_due" "_law_preset_due" (defArgs s__law_preset_due) (defBody s__law_preset_due) (defScope s__law_preset_due) [] [] (He.ga K "_law_preset_due") fd := F
  have hb := F.bindsN (ps := ["_law_row"]) fun _ _ _ _ _ _ us hl => match us, hl with | [_], _ => rfl
  exact ⟨_, fd, _, _, o__law_preset_due' (P := P) (w := w) (base := base) env pf F, env.at_ 22, F.kp, hb, .nil, rfl⟩
theorem sc__law_take_due : FnScope ["_law_row", "_law_value"] ["_law_row"] (defScope s__law_take_due) := ⟨rfl, rfl, rfl, by decide +kernel, rfl, by decide +kernel, by decide +kernel⟩
theorem o__law_take_due' (env : EnvW K w mg pp) (pf : PrgF P fileS) {a : Addr} {fd : FuncData} (F : FunD K "_law_take_due" "_law_take_due" (defArgs s__law_take_due) (defBody s__law_take_due) (defScope s__law_take_due) [] [] a fd) : VI.FnOk P w K mg base (CV P w) 2 a fd ["_law_row"] (spOf K f__law_take_due) := by
  have h__law_is_name_1 := (k__law_is_name_1 (P := P) (w := w) (base := base) env pf).mono (k := 1) (by decide)
  have SC := sc__law_take_due
  refine fn_ok F SC fun cdv A outer s H E hr bx => ?_
  exact ⟨_, (sss_cons (ss_if (SW.st (sw_and (st_isnt (se_ix (room1 hr) (se_var 0) se_int) se_non) (sw_and1 (st_not (st_val (se_call h__law_is_name_1 hr bx.at_ (sa_cons (se_ix (room1 hr) (se_var 0) se_int) sa_nil))))))) (sss_one (ss_ret (se_lst (sa_cons se_str (sa_cons (se_ix (room1 hr) (se_var 0) se_int) sa_nil))))) sss_nil) (sss_cons (ss_for (si_any (se_slice (se_var 0) (so_some se_int) so_none)) (sg_name 1 SC.nd) (sss_one (ss_if (st_not (st_val (se_isi env.f_isinstance (sv_cons (se_var 1) (sv_cons (se_tyv PyProof.Rows.boot_bool env.f_bool) sv_nil))))) (sss_one (ss_ret (se_lst (sa_cons se_str (sa_cons (se_var 1) sa_nil))))) sss_nil)) bx.own) (sss_one (ss_ret (se_lst (sa_cons se_str (sa_cons se_non sa_nil)))))))⟩
theorem k__law_take_due_1 (env : EnvW K w mg pp) (pf : PrgF P fileS) : FnP P w K mg base 2 "_law_take_due" [] f__law_take_due := by
  obtain ⟨fd, F⟩ := env.defs 7 d__law_take_due rfl
  replace F : FunD K "_law_take_due" "_law_take_due" (defArgs s__law_take_due) (defBody s__law_take_due) (defScope s__law_take_due) [] [] (He.ga K "_law_take_due") fd := F
  have hb := F.bindsN (ps := ["_law_row"]) fun _ _ _ _ _ _ us hl => match us, hl with | [_], _ => rfl
  exact ⟨_, fd, _, _, o__law_take_due' (P := P) (w := w) (base := base) env pf F, env.at_ 23, F.kp, hb, .nil, rfl⟩
theorem sc__law_due : FnScope ["_law_row"] ["_law_row"] (defScope s__law_due) := ⟨rfl, rfl, rfl, by decide +kernel, rfl, by decide +kernel, by decide +kernel⟩
theorem o__law_due' (env : EnvW K w mg pp) (pf : PrgF P fileS) {a : Addr} {fd : FuncData} (F : FunD K "_law_due" "_law_due" (defArgs s__law_due) (defBody s__law_due) (defScope s__law_due) [] [] a fd) : VI.FnOk P w K mg base (CV P w) 4 a fd ["_law_row"] (spOf K f__law_due) := by
  have h__law_flag_due_2 := (k__law_flag_due_2 (P := P) (w := w) (base := base) env pf).mono (k := 3) (by decide)
  have h__law_is_name_1 := (k__law_is_name_1 (P := P) (w := w) (base := base) env pf).mono (k := 3) (by decide)
  have h__law_is_right_1 := (k__law_is_right_1 (P := P) (w := w) (base := base) env pf).mono (k := 3) (by decide)
  have h__law_is_taker_1 := (k__law_is_taker_1 (P := P) (w := w) (base := base) env pf).mono (k := 3) (by decide)
  have h__law_preset_due_1 := (k__law_preset_due_1 (P := P) (w := w) (base := base) env pf).mono (k := 3) (by decide)
  have h__law_take_due_1 := (k__law_take_due_1 (P := P) (w := w) (base := base) env pf).mono (k := 3) (by decide)
  have SC := sc__law_due
  refine fn_ok F SC fun cdv A outer s H E hr bx => ?_
  exact ⟨_, (sss_cons (ss_if (st_eqD hr.units (se_ix (room1 hr) (se_var 0) se_int) se_str) (sss_one (ss_ret (se_if (st_val (se_call h__law_is_name_1 hr bx.at_ (sa_cons (se_ix (room1 hr) (se_var 0) se_int) sa_nil))) (se_lst (sa_cons se_str (sa_cons se_non sa_nil))) (se_lst (sa_cons se_str (sa_cons (se_ix (room1 hr) (se_var 0) se_int) sa_nil)))))) sss_nil) (sss_cons (ss_if (st_eqD hr.units (se_ix (room1 hr) (se_var 0) se_int) se_str) (sss_one (ss_ret (se_call h__law_preset_due_1 hr bx.at_ (sa_cons (se_var 0) sa_nil)))) sss_nil) (sss_cons (ss_if (st_not (st_val (se_call h__law_is_right_1 hr bx.at_ (sa_cons (se_ix (room1 hr) (se_var 0) se_int) sa_nil)))) (sss_one (ss_ret (se_lst (sa_cons se_str (sa_cons (se_ix (room1 hr) (se_var 0) se_int) sa_nil))))) sss_nil) (sss_cons (ss_if (st_not (st_val (se_call h__law_is_name_1 hr bx.at_ (sa_cons (se_ix (room1 hr) (se_var 0) se_int) sa_nil)))) (sss_one (ss_ret (se_lst (sa_cons se_str (sa_cons (se_ix (room1 hr) (se_var 0) se_int) sa_nil))))) sss_nil) (sss_cons (ss_if (st_eqD hr.units (se_ix (room1 hr) (se_var 0) se_int) se_str) (sss_one (ss_ret (se_lst (sa_cons se_str (sa_cons se_non sa_nil))))) sss_nil) (sss_cons (ss_if (SW.st (sw_and (st_not (st_val (se_call h__law_is_taker_1 hr bx.at_ (sa_cons (se_ix (room1 hr) (se_var 0) se_int) sa_nil)))) (sw_and1 (st_not (SW.st (sw_and (st_eqD hr.units (se_ix (room1 hr) (se_var 0) se_int) se_str) (sw_and1 (st_eqD hr.units (se_ix (room1 hr) (se_var 0) se_int) se_str)))))))) (sss_one (ss_ret (se_lst (sa_cons se_str (sa_cons (se_ix (room1 hr) (se_var 0) se_int) sa_nil))))) sss_nil) (sss_one (ss_ret (se_if (st_eqD hr.units (se_ix (room1 hr) (se_var 0) se_int) se_str) (se_call h__law_take_due_1 hr bx.at_ (sa_cons (se_var 0) sa_nil)) (se_call h__law_flag_due_2 hr bx.at_ (sa_cons (se_ix (room1 hr) (se_var 0) se_int) (sa_cons (se_ix (room1 hr) (se_var 0) se_int) sa_nil))))))))))))⟩
theorem k__law_due_1 (env : EnvW K w mg pp) (pf : PrgF P fileS) : FnP P w K mg base 4 "_law_due" [] f__law_due := by
  obtain ⟨fd, F⟩ := env.defs 8 d__law_due rfl
  replace F : FunD K "_law_due" "_law_due" (defArgs s__law_due) (defBody s__law_due) (defScope s__law_due) [] [] (He.ga K "_law_due") fd := F
  have hb := F.bindsN (ps := ["_law_row"]) fun _ _ _ _ _ _ us hl => match us, hl with | [_], _ => rfl
  exact ⟨_, fd, _, _, o__law_due' (P := P) (w := w) (base := base) env pf F, env.at_ 24, F.kp, hb, .nil, rfl⟩
theorem sc_is_name : FnScope ["value", "sign"] ["value"] (defScope s_is_name) := ⟨rfl, rfl, rfl, by decide +kernel, rfl, by decide +kernel, by decide +kernel⟩
theorem o_is_name' (env : EnvW K w mg pp) (pf : PrgF P fileS) {a : Addr} {fd : FuncData} (F : FunD K "is_name" "is_name" (defArgs s_is_name) (defBody s_is_name) (defScope s_is_name) [] [] a fd) : VI.FnOk P w K mg base (CV P w) 1 a fd ["value"] (spOf K f_is_name) := by
  have SC := sc_is_name
  refine fn_ok F SC fun cdv A outer s H E hr bx => ?_
  exact ⟨_, (sss_cons (ss_if (SW.st (sw_or (st_not (st_val (se_isi env.f_isinstance (sv_cons (se_var 0) (sv_cons (se_tyv PyProof.Rows.boot_str env.f_str) sv_nil))))) (sw_or (st_not (st_chain op_leX op_leX ops_le ops_le se_int (se_len env.f_len (sv_cons (se_var 0) sv_nil)) se_int)) (sw_or1 (st_in hr.units (se_var 0) (se_tup (sa_cons (se_gstr (env.str 1)) (sa_cons (se_gstr (env.str 0)) sa_nil)))))))) (sss_one (ss_ret se_bl)) sss_nil) (sss_one (ss_ret (se_all env.f_all (sv_cons (se_comp [("sign", 1)] SC.nd (si_any (se_var 0)) (fun _ _ _ _ _ => (sg_name 1 SC.nd)) (fun _ _ _ _ _ => sts_nil) (fun _ _ _ _ _ => (se_in hr.units (se_var 1) (se_gstr (env.str 2))))) sv_nil)))))⟩
theorem k_is_name_1 (env : EnvW K w mg pp) (pf : PrgF P fileS) : FnP P w K mg base 1 "is_name" [] f_is_name := by
  obtain ⟨fd, F⟩ := env.defs 9 d_is_name rfl
  replace F : FunD K "is_name" "is_name" (defArgs s_is_name) (defBody s_is_name) (defScope s_is_name) [] [] (He.ga K "is_name") fd := F
  have hb := F.bindsN (ps := ["value"]) fun _ _ _ _ _ _ us hl => match us, hl with | [_], _ => rfl
  exact ⟨_, fd, _, _, o_is_name' (P := P) (w := w) (base := base) env pf F, env.at_ 25, F.kp, hb, .nil, rfl⟩
theorem sc_need_name : FnScope ["value"] ["value"] (defScope s_need_name) := ⟨rfl, rfl, rfl, by decide +kernel, rfl, by decide +kernel, by decide +kernel⟩
theorem o_need_name' (env : EnvW K w mg pp) (pf : PrgF P fileS) {a : Addr} {fd : FuncData} (F : FunD K "need_name" "need_name" (defArgs s_need_name) (defBody s_need_name) (defScope s_need_name) [] [] a fd) : VI.FnOk P w K mg base (CV P w) 3 a fd ["value"] (spOf K f_need_name) := by
  have h_is_name_1 := (k_is_name_1 (P := P) (w := w) (base := base) env pf).mono (k := 2) (by decide)
  have h_xc_InvalidName := (k_xc_InvalidName (P := P) (w := w) (base := base) env pf).mono (k := 1) (by decide)
  have SC := sc_need_name
  refine fn_ok F SC fun cdv A outer s H E hr bx => ?_
  exact ⟨_, (sss_one (ss_if (st_not (st_val (se_call h_is_name_1 hr bx.at_ (sa_cons (se_var 0) sa_nil)))) (sss_one (ss_raise h_xc_InvalidName hr bx (sa_cons (se_var 0) sa_nil))) sss_nil))⟩
theorem k_need_name_1 (env : EnvW K w mg pp) (pf : PrgF P fileS) : FnP P w K mg base 3 "need_name" [] f_need_name := by
  obtain ⟨fd, F⟩ := env.defs 10 d_need_name rfl
  replace F : FunD K "need_name" "need_name" (defArgs s_need_name) (defBody s_need_name) (defScope s_need_name) [] [] (He.ga K "need_name") fd := F
  have hb := F.bindsN (ps := ["value"]) fun _ _ _ _ _ _ us hl => match us, hl with | [_], _ => rfl
  exact ⟨_, fd, _, _, o_need_name' (P := P) (w := w) (base := base) env pf F, env.at_ 26, F.kp, hb, .nil, rfl⟩
theorem sc_Deed___init__ : FnScope ["self", "words"] ["self", "words"] (defScope s_Deed___init__) := ⟨rfl, rfl, rfl, by decide +kernel, rfl, by decide +kernel, by decide +kernel⟩
theorem o_Deed___init__' (env : EnvW K w mg pp) (pf : PrgF P fileS) {a : Addr} {fd : FuncData} (F : FunD K "__init__" "Deed.__init__" (defArgs s_Deed___init__) (defBody s_Deed___init__) (defScope s_Deed___init__) [] [] a fd) : CbG P w K mg base 1 a [] (spIK K (istar f_Deed___init__ 0)) := by
  have SC := sc_Deed___init__
  refine star_init (ps := ["self"]) (pv := "words") F SC 0 rfl (fun kV doc pm an cdv ct us rest hl => match us, hl with | [a], _ => bind_var1 (fd := PySem.W.fnOf "__init__" "Deed.__init__" (defArgs s_Deed___init__) (defBody s_Deed___init__) (defScope s_Deed___init__) .none kV doc pm an cdv ct) (p1 := "self") (pv := "words") rfl rfl rfl rfl rfl rfl rfl a rest) fun cdv A outer s H E hr bx => ?_
  exact ⟨_, (sss_one (ss_attr ["Give", "Take", "Call", "Preset", "Use"] (plain_of (x_17 env)) (se_list env.f_list (sv_cons (se_var 1) sv_nil)) (se_var 0)))⟩
theorem b_Deed_star (env : EnvW K w mg pp) (pf : PrgF P fileS) : CbG P w K mg base 1 (He.fAd K ("Deed", some "__init__")) [] (spIK K e_Deed_star) := by
  obtain ⟨fd, F⟩ := env.defs 25 d_Deed___init__ rfl
  replace F : FunD K "__init__" "Deed.__init__" (defArgs s_Deed___init__) (defBody s_Deed___init__) (defScope s_Deed___init__) [] [] (He.fAd K ("Deed", some "__init__")) fd := F
  exact o_Deed___init__' (P := P) (w := w) (base := base) env pf F
theorem sc_Call___init__ : NdefX.NScope ["self", "function", "__class__"] ["self", "function"] ["__class__"] (defScope s_Call___init__) := NdefX.nscope_by (by decide +kernel)
theorem o_Call___init__' (env : EnvW K w mg pp) (pf : PrgF P fileS) {fd : FuncData} (F : FunC K "__init__" "Call.__init__" (defArgs s_Call___init__) (defBody s_Call___init__) (defScope s_Call___init__) [] [] (ccAt K ("Call", some "__init__")) (He.fAd K ("Call", some "__init__")) fd) : VI.FnOk P w K mg base (CV P w) 4 (He.fAd K ("Call", some "__init__")) fd ["self", "function"] (spI K f_Call___init__) := by
  have h_need_name_1 := (k_need_name_1 (P := P) (w := w) (base := base) env pf).mono (k := 3) (by decide)
  have sf := supF_of (x_24 env)
  have h_sup := (supP_of sf (b_Deed_star (P := P) (w := w) (base := base) env pf)).mono (k := 3) (by decide)
  have SC := sc_Call___init__
  refine initC_ok F SC sf.cc sf.code pf sf.cls sf.stat rfl rfl fun c A outer s H E hr bx sup => ?_
  exact ⟨_, (sat_cons (ss_expr (se_call h_need_name_1 hr bx.at_ (sa_cons (se_var 1) sa_nil))) (sat_sup (s1_sup sup h_sup hr bx.at_ (sa_cons se_str (sa_cons (se_var 1) sa_nil)) env.f_super) (sat_all (sss_one (ss_attr ["Call"] (plain_of (x_10 env)) (se_var 1) (se_var 0))))))⟩
theorem sc_flagged : FnScope ["word", "flag"] ["word", "flag"] (defScope s_flagged) := ⟨rfl, rfl, rfl, by decide +kernel, rfl, by decide +kernel, by decide +kernel⟩
theorem o_flagged' (env : EnvW K w mg pp) (pf : PrgF P fileS) {a : Addr} {fd : FuncData} (F : FunD K "flagged" "flagged" (defArgs s_flagged) (defBody s_flagged) (defScope s_flagged) [] [] a fd) : VI.FnOk P w K mg base (CV P w) 1 a fd ["word", "flag"] (spOf K f_flagged) := by
  have SC := sc_flagged
  refine fn_ok F SC fun cdv A outer s H E hr bx => ?_
  exact ⟨_, (sss_one (ss_ret (se_if (st_val (se_var 1)) (se_lst (sa_cons (se_var 0) sa_nil)) (se_lst sa_nil))))⟩
theorem k_flagged_2 (env : EnvW K w mg pp) (pf : PrgF P fileS) : FnP P w K mg base 1 "flagged" [] f_flagged := by
  obtain ⟨fd, F⟩ := env.defs 11 d_flagged rfl
  replace F : FunD K "flagged" "flagged" (defArgs s_flagged) (defBody s_flagged) (defScope s_flagged) [] [] (He.ga K "flagged") fd := F
  have hb := F.bindsN (ps := ["word", "flag"]) fun _ _ _ _ _ _ us hl => match us, hl with | [_, _], _ => rfl
  exact ⟨_, fd, _, _, o_flagged' (P := P) (w := w) (base := base) env pf F, env.at_ 27, F.kp, hb, .nil, rfl⟩
theorem sc_is_flag : FnScope ["value"] ["value"] (defScope s_is_flag) := ⟨rfl, rfl, rfl, by decide +kernel, rfl, by decide +kernel, by decide +kernel⟩
theorem o_is_flag' (env : EnvW K w mg pp) (pf : PrgF P fileS) {a : Addr} {fd : FuncData} (F : FunD K "is_flag" "is_flag" (defArgs s_is_flag) (defBody s_is_flag) (defScope s_is_flag) [] [] a fd) : VI.FnOk P w K mg base (CV P w) 1 a fd ["value"] (spOf K f_is_flag) := by
  have SC := sc_is_flag
  refine fn_ok F SC fun cdv A outer s H E hr bx => ?_
  exact ⟨_, (sss_one (ss_ret (se_isi env.f_isinstance (sv_cons (se_var 0) (sv_cons (se_tyv PyProof.Rows.boot_bool env.f_bool) sv_nil)))))⟩
theorem k_is_flag_1 (env : EnvW K w mg pp) (pf : PrgF P fileS) : FnP P w K mg base 1 "is_flag" [] f_is_flag := by
  obtain ⟨fd, F⟩ := env.defs 12 d_is_flag rfl
  replace F : FunD K "is_flag" "is_flag" (defArgs s_is_flag) (defBody s_is_flag) (defScope s_is_flag) [] [] (He.ga K "is_flag") fd := F
  have hb := F.bindsN (ps := ["value"]) fun _ _ _ _ _ _ us hl => match us, hl with | [_], _ => rfl
  exact ⟨_, fd, _, _, o_is_flag' (P := P) (w := w) (base := base) env pf F, env.at_ 28, F.kp, hb, .nil, rfl⟩
theorem sc_need_flag : FnScope ["value", "taker"] ["value", "taker"] (defScope s_need_flag) := ⟨rfl, rfl, rfl, by decide +kernel, rfl, by decide +kernel, by decide +kernel⟩
theorem o_need_flag' (env : EnvW K w mg pp) (pf : PrgF P fileS) {a : Addr} {fd : FuncData} (F : FunD K "need_flag" "need_flag" (defArgs s_need_flag) (defBody s_need_flag) (defScope s_need_flag) [(.str "")] [] a fd) : VI.FnOk P w K mg base (CV P w) 3 a fd ["value", "taker"] (spOf K f_need_flag) := by
  have h_is_flag_1 := (k_is_flag_1 (P := P) (w := w) (base := base) env pf).mono (k := 2) (by decide)
  have h_xc_InvalidFlag := (k_xc_InvalidFlag (P := P) (w := w) (base := base) env pf).mono (k := 1) (by decide)
  have SC := sc_need_flag
  refine fn_ok F SC fun cdv A outer s H E hr bx => ?_
  exact ⟨_, (sss_one (ss_if (SW.st (sw_or (st_not (st_val (se_call h_is_flag_1 hr bx.at_ (sa_cons (se_var 0) sa_nil)))) (sw_or1 (SW.st (sw_and (st_val (se_var 0)) (sw_and1 (st_eqD hr.units (se_var 1) (se_gstr (env.str 1))))))))) (sss_one (ss_raise h_xc_InvalidFlag hr bx (sa_cons (se_var 0) sa_nil))) sss_nil))⟩
theorem k_need_flag_1 (env : EnvW K w mg pp) (pf : PrgF P fileS) : FnP P w K mg base 3 "need_flag" [(.str "")] f_need_flag := by
  obtain ⟨fd, F⟩ := env.defs 13 d_need_flag rfl
  replace F : FunD K "need_flag" "need_flag" (defArgs s_need_flag) (defBody s_need_flag) (defScope s_need_flag) [(.str "")] [] (He.ga K "need_flag") fd := F
  obtain ⟨ds, hv, hb⟩ := F.binds1 (ps := ["value", "taker"]) 1 0 (by simp) rfl fun T kV doc pm an cdv ct us its h1 h2 => match us, its, h1, h2 with | [_], [_], _, _ => ⟨_, rfl, rfl⟩
  exact ⟨_, fd, _, _, o_need_flag' (P := P) (w := w) (base := base) env pf F, env.at_ 29, F.kp, hb, hv, rfl⟩
theorem k_need_flag_2 (env : EnvW K w mg pp) (pf : PrgF P fileS) : FnP P w K mg base 3 "need_flag" [] f_need_flag := by
  obtain ⟨fd, F⟩ := env.defs 13 d_need_flag rfl
  replace F : FunD K "need_flag" "need_flag" (defArgs s_need_flag) (defBody s_need_flag) (defScope s_need_flag) [(.str "")] [] (He.ga K "need_flag") fd := F
  obtain ⟨ds, hv, hb⟩ := F.binds1 (ps := ["value", "taker"]) 2 1 (by simp) rfl fun T kV doc pm an cdv ct us its h1 h2 => match us, its, h1, h2 with | [_, _], [_], _, _ => ⟨_, rfl, rfl⟩
  exact ⟨_, fd, _, _, o_need_flag' (P := P) (w := w) (base := base) env pf F, env.at_ 29, F.kp, hb, hv, rfl⟩
theorem sc_is_right : FnScope ["value"] ["value"] (defScope s_is_right) := ⟨rfl, rfl, rfl, by decide +kernel, rfl, by decide +kernel, by decide +kernel⟩
theorem o_is_right' (env : EnvW K w mg pp) (pf : PrgF P fileS) {a : Addr} {fd : FuncData} (F : FunD K "is_right" "is_right" (defArgs s_is_right) (defBody s_is_right) (defScope s_is_right) [] [] a fd) : VI.FnOk P w K mg base (CV P w) 1 a fd ["value"] (spOf K f_is_right) := by
  have SC := sc_is_right
  refine fn_ok F SC fun cdv A outer s H E hr bx => ?_
  exact ⟨_, (sss_one (ss_ret (se_and (se_isi env.f_isinstance (sv_cons (se_var 0) (sv_cons (se_tyv PyProof.Rows.boot_str env.f_str) sv_nil))) (se_one (se_in hr.units (se_var 0) (se_gtup (vs := c_RIGHTS) (env.at_ 15) (x_18 env)))))))⟩
theorem k_is_right_1 (env : EnvW K w mg pp) (pf : PrgF P fileS) : FnP P w K mg base 1 "is_right" [] f_is_right := by
  obtain ⟨fd, F⟩ := env.defs 14 d_is_right rfl
  replace F : FunD K "is_right" "is_right" (defArgs s_is_right) (defBody s_is_right) (defScope s_is_right) [] [] (He.ga K "is_right") fd := F
  have hb := F.bindsN (ps := ["value"]) fun _ _ _ _ _ _ us hl => match us, hl with | [_], _ => rfl
  exact ⟨_, fd, _, _, o_is_right' (P := P) (w := w) (base := base) env pf F, env.at_ 30, F.kp, hb, .nil, rfl⟩
theorem sc_need_right : FnScope ["value"] ["value"] (defScope s_need_right) := ⟨rfl, rfl, rfl, by decide +kernel, rfl, by decide +kernel, by decide +kernel⟩
theorem o_need_right' (env : EnvW K w mg pp) (pf : PrgF P fileS) {a : Addr} {fd : FuncData} (F : FunD K "need_right" "need_right" (defArgs s_need_right) (defBody s_need_right) (defScope s_need_right) [] [] a fd) : VI.FnOk P w K mg base (CV P w) 3 a fd ["value"] (spOf K f_need_right) := by
  have h_is_right_1 := (k_is_right_1 (P := P) (w := w) (base := base) env pf).mono (k := 2) (by decide)
  have h_xc_InvalidRight := (k_xc_InvalidRight (P := P) (w := w) (base := base) env pf).mono (k := 1) (by decide)
  have SC := sc_need_right
  refine fn_ok F SC fun cdv A outer s H E hr bx => ?_
  exact ⟨_, (sss_one (ss_if (st_not (st_val (se_call h_is_right_1 hr bx.at_ (sa_cons (se_var 0) sa_nil)))) (sss_one (ss_raise h_xc_InvalidRight hr bx (sa_cons (se_var 0) sa_nil))) sss_nil))⟩
theorem k_need_right_1 (env : EnvW K w mg pp) (pf : PrgF P fileS) : FnP P w K mg base 3 "need_right" [] f_need_right := by
  obtain ⟨fd, F⟩ := env.defs 15 d_need_right rfl
  replace F : FunD K "need_right" "need_right" (defArgs s_need_right) (defBody s_need_right) (defScope s_need_right) [] [] (He.ga K "need_right") fd := F
  have hb := F.bindsN (ps := ["value"]) fun _ _ _ _ _ _ us hl => match us, hl with | [_], _ => rfl
  exact ⟨_, fd, _, _, o_need_right' (P := P) (w := w) (base := base) env pf F, env.at_ 31, F.kp, hb, .nil, rfl⟩
theorem sc_is_taker : FnScope ["value"] ["value"] (defScope s_is_taker) := ⟨rfl, rfl, rfl, by decide +kernel, rfl, by decide +kernel, by decide +kernel⟩
theorem o_is_taker' (env : EnvW K w mg pp) (pf : PrgF P fileS) {a : Addr} {fd : FuncData} (F : FunD K "is_taker" "is_taker" (defArgs s_is_taker) (defBody s_is_taker) (defScope s_is_taker) [] [] a fd) : VI.FnOk P w K mg base (CV P w) 2 a fd ["value"] (spOf K f_is_taker) := by
  have h_is_name_1 := (k_is_name_1 (P := P) (w := w) (base := base) env pf).mono (k := 1) (by decide)
  have SC := sc_is_taker
  refine fn_ok F SC fun cdv A outer s H E hr bx => ?_
  exact ⟨_, (sss_one (ss_ret (se_or (se_call h_is_name_1 hr bx.at_ (sa_cons (se_var 0) sa_nil)) (se_one (se_and (se_isi env.f_isinstance (sv_cons (se_var 0) (sv_cons (se_tyv PyProof.Rows.boot_str env.f_str) sv_nil))) (se_one (se_eqD hr.units (se_var 0) (se_gstr (env.str 1)))))))))⟩
theorem k_is_taker_1 (env : EnvW K w mg pp) (pf : PrgF P fileS) : FnP P w K mg base 2 "is_taker" [] f_is_taker := by
  obtain ⟨fd, F⟩ := env.defs 16 d_is_taker rfl
  replace F : FunD K "is_taker" "is_taker" (defArgs s_is_taker) (defBody s_is_taker) (defScope s_is_taker) [] [] (He.ga K "is_taker") fd := F
  have hb := F.bindsN (ps := ["value"]) fun _ _ _ _ _ _ us hl => match us, hl with | [_], _ => rfl
  exact ⟨_, fd, _, _, o_is_taker' (P := P) (w := w) (base := base) env pf F, env.at_ 32, F.kp, hb, .nil, rfl⟩
theorem sc_need_taker : FnScope ["value"] ["value"] (defScope s_need_taker) := ⟨rfl, rfl, rfl, by decide +kernel, rfl, by decide +kernel, by decide +kernel⟩
theorem o_need_taker' (env : EnvW K w mg pp) (pf : PrgF P fileS) {a : Addr} {fd : FuncData} (F : FunD K "need_taker" "need_taker" (defArgs s_need_taker) (defBody s_need_taker) (defScope s_need_taker) [] [] a fd) : VI.FnOk P w K mg base (CV P w) 3 a fd ["value"] (spOf K f_need_taker) := by
  have h_is_taker_1 := (k_is_taker_1 (P := P) (w := w) (base := base) env pf).mono (k := 2) (by decide)
  have h_xc_InvalidTaker := (k_xc_InvalidTaker (P := P) (w := w) (base := base) env pf).mono (k := 1) (by decide)
  have SC := sc_need_taker
  refine fn_ok F SC fun cdv A outer s H E hr bx => ?_
  exact ⟨_, (sss_one (ss_if (st_not (st_val (se_call h_is_taker_1 hr bx.at_ (sa_cons (se_var 0) sa_nil)))) (sss_one (ss_raise h_xc_InvalidTaker hr bx (sa_cons (se_var 0) sa_nil))) sss_nil))⟩
theorem k_need_taker_1 (env : EnvW K w mg pp) (pf : PrgF P fileS) : FnP P w K mg base 3 "need_taker" [] f_need_taker := by
  obtain ⟨fd, F⟩ := env.defs 17 d_need_taker rfl
  replace F : FunD K "need_taker" "need_taker" (defArgs s_need_taker) (defBody s_need_taker) (defScope s_need_taker) [] [] (He.ga K "need_taker") fd := F
  have hb := F.bindsN (ps := ["value"]) fun _ _ _ _ _ _ us hl => match us, hl with | [_], _ => rfl
  exact ⟨_, fd, _, _, o_need_taker' (P := P) (w := w) (base := base) env pf F, env.at_ 33, F.kp, hb, .nil, rfl⟩
theorem sc_Give___init__ : NdefX.NScope ["self", "right", "thing", "taker", "option", "__class__", "ends"] ["self", "right", "thing", "taker", "option"] ["__class__"] (defScope s_Give___init__) := NdefX.nscope_by (by decide +kernel)
theorem o_Give___init__' (env : EnvW K w mg pp) (pf : PrgF P fileS) {fd : FuncData} (F : FunC K "__init__" "Give.__init__" (defArgs s_Give___init__) (defBody s_Give___init__) (defScope s_Give___init__) [] [("option", (.bl false))] (ccAt K ("Give", some "__init__")) (He.fAd K ("Give", some "__init__")) fd) : VI.FnOk P w K mg base (CV P w) 4 (He.fAd K ("Give", some "__init__")) fd ["self", "right", "thing", "taker", "option"] (spI K f_Give___init__) := by
  have h_flagged_2 := (k_flagged_2 (P := P) (w := w) (base := base) env pf).mono (k := 3) (by decide)
  have h_need_flag_2 := (k_need_flag_2 (P := P) (w := w) (base := base) env pf).mono (k := 3) (by decide)
  have h_need_name_1 := (k_need_name_1 (P := P) (w := w) (base := base) env pf).mono (k := 3) (by decide)
  have h_need_right_1 := (k_need_right_1 (P := P) (w := w) (base := base) env pf).mono (k := 3) (by decide)
  have h_need_taker_1 := (k_need_taker_1 (P := P) (w := w) (base := base) env pf).mono (k := 3) (by decide)
  have sf := supF_of (x_25 env)
  have h_sup := (supP_of sf (b_Deed_star (P := P) (w := w) (base := base) env pf)).mono (k := 3) (by decide)
  have SC := sc_Give___init__
  refine initC_ok F SC sf.cc sf.code pf sf.cls sf.stat rfl rfl fun c A outer s H E hr bx sup => ?_
  exact ⟨_, (sat_cons (ss_expr (se_call h_need_right_1 hr bx.at_ (sa_cons (se_var 1) sa_nil))) (sat_cons (ss_expr (se_call h_need_name_1 hr bx.at_ (sa_cons (se_var 2) sa_nil))) (sat_cons (ss_if (SW.st (sw_or (st_not (st_val (se_isi env.f_isinstance (sv_cons (se_var 3) (sv_cons (se_tyv PyProof.Rows.boot_str env.f_str) sv_nil))))) (sw_or1 (st_ne hr.units (se_var 3) (se_gstr (env.str 0)))))) (sss_one (ss_expr (se_call h_need_taker_1 hr bx.at_ (sa_cons (se_var 3) sa_nil)))) sss_nil) (sat_cons (ss_expr (se_call h_need_flag_2 hr bx.at_ (sa_cons (se_var 4) (sa_cons (se_var 3) sa_nil)))) (sat_cons (ss_how .own 6 (se_call h_flagged_2 hr bx.at_ (sa_cons se_str (sa_cons (se_var 4) sa_nil))) SC.nd) (sat_sup (s1_supS sup h_sup hr bx.at_ (sa_cons se_str (sa_cons (se_var 1) (sa_cons (se_var 2) (sa_cons (se_var 3) (sa_star (se_var 6) sa_nil))))) env.f_super) (sat_all (sss_cons (ss_attr ["Give", "Take", "Preset", "Use"] (plain_of (x_6 env)) (se_var 1) (se_var 0)) (sss_cons (ss_attr ["Give", "Take", "Use"] (plain_of (x_7 env)) (se_var 2) (se_var 0)) (sss_cons (ss_attr ["Give", "Take", "Preset"] (plain_of (x_8 env)) (se_var 3) (se_var 0)) (sss_one (ss_attr ["Give", "Preset"] (plain_of (x_9 env)) (se_var 4) (se_var 0)))))))))))))⟩
theorem sc_Preset___init__ : NdefX.NScope ["self", "kind", "right", "taker", "option", "__class__", "ends"] ["self", "kind", "right", "taker", "option"] ["__class__"] (defScope s_Preset___init__) := NdefX.nscope_by (by decide +kernel)
theorem o_Preset___init__' (env : EnvW K w mg pp) (pf : PrgF P fileS) {fd : FuncData} (F : FunC K "__init__" "Preset.__init__" (defArgs s_Preset___init__) (defBody s_Preset___init__) (defScope s_Preset___init__) [] [("option", (.bl false))] (ccAt K ("Preset", some "__init__")) (He.fAd K ("Preset", some "__init__")) fd) : VI.FnOk P w K mg base (CV P w) 4 (He.fAd K ("Preset", some "__init__")) fd ["self", "kind", "right", "taker", "option"] (spI K f_Preset___init__) := by
  have h_flagged_2 := (k_flagged_2 (P := P) (w := w) (base := base) env pf).mono (k := 3) (by decide)
  have h_is_right_1 := (k_is_right_1 (P := P) (w := w) (base := base) env pf).mono (k := 3) (by decide)
  have h_need_flag_2 := (k_need_flag_2 (P := P) (w := w) (base := base) env pf).mono (k := 3) (by decide)
  have h_need_taker_1 := (k_need_taker_1 (P := P) (w := w) (base := base) env pf).mono (k := 3) (by decide)
  have h_xc_InvalidKind := (k_xc_InvalidKind (P := P) (w := w) (base := base) env pf).mono (k := 2) (by decide)
  have h_xc_InvalidRight := (k_xc_InvalidRight (P := P) (w := w) (base := base) env pf).mono (k := 2) (by decide)
  have sf := supF_of (x_26 env)
  have h_sup := (supP_of sf (b_Deed_star (P := P) (w := w) (base := base) env pf)).mono (k := 3) (by decide)
  have SC := sc_Preset___init__
  refine initC_ok F SC sf.cc sf.code pf sf.cls sf.stat rfl rfl fun c A outer s H E hr bx sup => ?_
  exact ⟨_, (sat_cons (ss_if (SW.st (sw_or (st_not (st_val (se_isi env.f_isinstance (sv_cons (se_var 1) (sv_cons (se_tyv PyProof.Rows.boot_str env.f_str) sv_nil))))) (sw_or1 (st_notin hr.units (se_var 1) (se_gtup (vs := c_MADE_KINDS) (env.at_ 13) (x_14 env)))))) (sss_one (ss_raise h_xc_InvalidKind hr bx (sa_cons (se_var 1) sa_nil))) sss_nil) (sat_cons (ss_if (SW.st (sw_or (st_not (st_val (se_call h_is_right_1 hr bx.at_ (sa_cons (se_var 2) sa_nil)))) (sw_or1 (st_notin hr.units (se_var 2) (se_tab (tab := c_RIGHTS_BY_KIND) (y_RIGHTS_BY_KIND env) (x_15 env) (se_glo (env.at_ 14)) (se_var 1)))))) (sss_one (ss_raise h_xc_InvalidRight hr bx (sa_cons (se_var 2) sa_nil))) sss_nil) (sat_cons (ss_expr (se_call h_need_taker_1 hr bx.at_ (sa_cons (se_var 3) sa_nil))) (sat_cons (ss_expr (se_call h_need_flag_2 hr bx.at_ (sa_cons (se_var 4) (sa_cons (se_var 3) sa_nil)))) (sat_cons (ss_how .own 6 (se_call h_flagged_2 hr bx.at_ (sa_cons se_str (sa_cons (se_var 4) sa_nil))) SC.nd) (sat_sup (s1_supS sup h_sup hr bx.at_ (sa_cons se_str (sa_cons (se_var 1) (sa_cons (se_var 2) (sa_cons (se_var 3) (sa_star (se_var 6) sa_nil))))) env.f_super) (sat_all (sss_cons (ss_attr ["Preset"] (plain_of (x_16 env)) (se_var 1) (se_var 0)) (sss_cons (ss_attr ["Give", "Take", "Preset", "Use"] (plain_of (x_6 env)) (se_var 2) (se_var 0)) (sss_cons (ss_attr ["Give", "Take", "Preset"] (plain_of (x_8 env)) (se_var 3) (se_var 0)) (sss_one (ss_attr ["Give", "Preset"] (plain_of (x_9 env)) (se_var 4) (se_var 0)))))))))))))⟩
theorem sc_Take___init__ : NdefX.NScope ["self", "right", "thing", "taker", "giver", "only_option", "cascade", "__class__", "ends"] ["self", "right", "thing", "taker", "giver", "only_option", "cascade"] ["__class__"] (defScope s_Take___init__) := NdefX.nscope_by (by decide +kernel)
theorem o_Take___init__' (env : EnvW K w mg pp) (pf : PrgF P fileS) {fd : FuncData} (F : FunC K "__init__" "Take.__init__" (defArgs s_Take___init__) (defBody s_Take___init__) (defScope s_Take___init__) [] [("giver", .non), ("only_option", (.bl false)), ("cascade", (.bl false))] (ccAt K ("Take", some "__init__")) (He.fAd K ("Take", some "__init__")) fd) : VI.FnOk P w K mg base (CV P w) 4 (He.fAd K ("Take", some "__init__")) fd ["self", "right", "thing", "taker", "giver", "only_option", "cascade"] (spI K f_Take___init__) := by
  have h_flagged_2 := (k_flagged_2 (P := P) (w := w) (base := base) env pf).mono (k := 3) (by decide)
  have h_need_flag_1 := (k_need_flag_1 (P := P) (w := w) (base := base) env pf).mono (k := 3) (by decide)
  have h_need_name_1 := (k_need_name_1 (P := P) (w := w) (base := base) env pf).mono (k := 3) (by decide)
  have h_need_right_1 := (k_need_right_1 (P := P) (w := w) (base := base) env pf).mono (k := 3) (by decide)
  have h_need_taker_1 := (k_need_taker_1 (P := P) (w := w) (base := base) env pf).mono (k := 3) (by decide)
  have sf := supF_of (x_27 env)
  have h_sup := (supP_of sf (b_Deed_star (P := P) (w := w) (base := base) env pf)).mono (k := 3) (by decide)
  have SC := sc_Take___init__
  refine initC_ok F SC sf.cc sf.code pf sf.cls sf.stat rfl rfl fun c A outer s H E hr bx sup => ?_
  exact ⟨_, (sat_cons (ss_expr (se_call h_need_right_1 hr bx.at_ (sa_cons (se_var 1) sa_nil))) (sat_cons (ss_expr (se_call h_need_name_1 hr bx.at_ (sa_cons (se_var 2) sa_nil))) (sat_cons (ss_expr (se_call h_need_taker_1 hr bx.at_ (sa_cons (se_var 3) sa_nil))) (sat_cons (ss_if (st_isnt (se_var 4) se_non) (sss_one (ss_expr (se_call h_need_name_1 hr bx.at_ (sa_cons (se_var 4) sa_nil)))) sss_nil) (sat_cons (ss_expr (se_call h_need_flag_1 hr bx.at_ (sa_cons (se_var 5) sa_nil))) (sat_cons (ss_expr (se_call h_need_flag_1 hr bx.at_ (sa_cons (se_var 6) sa_nil))) (sat_cons (ss_how .own 8 (se_if (st_is (se_var 4) se_non) (se_lst sa_nil) (se_lst (sa_cons se_str (sa_cons (se_var 4) sa_nil)))) SC.nd) (sat_cons (ss_how .own 8 (se_add (se_add (se_var 8) (se_call h_flagged_2 hr bx.at_ (sa_cons se_str (sa_cons (se_var 5) sa_nil)))) (se_call h_flagged_2 hr bx.at_ (sa_cons se_str (sa_cons (se_var 6) sa_nil)))) SC.nd) (sat_sup (s1_supS sup h_sup hr bx.at_ (sa_cons se_str (sa_cons (se_var 1) (sa_cons (se_var 2) (sa_cons (se_var 3) (sa_star (se_var 8) sa_nil))))) env.f_super) (sat_all (sss_cons (ss_attr ["Give", "Take", "Preset", "Use"] (plain_of (x_6 env)) (se_var 1) (se_var 0)) (sss_cons (ss_attr ["Give", "Take", "Use"] (plain_of (x_7 env)) (se_var 2) (se_var 0)) (sss_cons (ss_attr ["Give", "Take", "Preset"] (plain_of (x_8 env)) (se_var 3) (se_var 0)) (sss_cons (ss_attr ["Take"] (plain_of (x_11 env)) (se_var 4) (se_var 0)) (sss_cons (ss_attr ["Take"] (plain_of (x_12 env)) (se_var 5) (se_var 0)) (sss_one (ss_attr ["Take"] (plain_of (x_13 env)) (se_var 6) (se_var 0))))))))))))))))))⟩
theorem sc_Use___init__ : NdefX.NScope ["self", "right", "thing", "__class__"] ["self", "right", "thing"] ["__class__"] (defScope s_Use___init__) := NdefX.nscope_by (by decide +kernel)
theorem o_Use___init__' (env : EnvW K w mg pp) (pf : PrgF P fileS) {fd : FuncData} (F : FunC K "__init__" "Use.__init__" (defArgs s_Use___init__) (defBody s_Use___init__) (defScope s_Use___init__) [] [] (ccAt K ("Use", some "__init__")) (He.fAd K ("Use", some "__init__")) fd) : VI.FnOk P w K mg base (CV P w) 4 (He.fAd K ("Use", some "__init__")) fd ["self", "right", "thing"] (spI K f_Use___init__) := by
  have h_need_name_1 := (k_need_name_1 (P := P) (w := w) (base := base) env pf).mono (k := 3) (by decide)
  have h_need_right_1 := (k_need_right_1 (P := P) (w := w) (base := base) env pf).mono (k := 3) (by decide)
  have sf := supF_of (x_28 env)
  have h_sup := (supP_of sf (b_Deed_star (P := P) (w := w) (base := base) env pf)).mono (k := 3) (by decide)
  have SC := sc_Use___init__
  refine initC_ok F SC sf.cc sf.code pf sf.cls sf.stat rfl rfl fun c A outer s H E hr bx sup => ?_
  exact ⟨_, (sat_cons (ss_expr (se_call h_need_right_1 hr bx.at_ (sa_cons (se_var 1) sa_nil))) (sat_cons (ss_expr (se_call h_need_name_1 hr bx.at_ (sa_cons (se_var 2) sa_nil))) (sat_sup (s1_sup sup h_sup hr bx.at_ (sa_cons se_str (sa_cons (se_var 1) (sa_cons (se_var 2) sa_nil))) env.f_super) (sat_all (sss_cons (ss_attr ["Give", "Take", "Preset", "Use"] (plain_of (x_6 env)) (se_var 1) (se_var 0)) (sss_one (ss_attr ["Give", "Take", "Use"] (plain_of (x_7 env)) (se_var 2) (se_var 0))))))))⟩
theorem b_Call_1 (env : EnvW K w mg pp) (pf : PrgF P fileS) : CbG P w K mg base 4 (He.fAd K ("Call", some "__init__")) [] (spIK K e_Call_1) := by
  obtain ⟨fd, F⟩ := env.supr 5 d_Call___init__ rfl
  replace F : FunC K "__init__" "Call.__init__" (defArgs s_Call___init__) (defBody s_Call___init__) (defScope s_Call___init__) [] [] (ccAt K ("Call", some "__init__")) (He.fAd K ("Call", some "__init__")) fd := F
  have h := o_Call___init__' (P := P) (w := w) (base := base) env pf F
  have hb := F.bN (ps := ["self", "function"]) fun _ _ _ _ _ _ us hl => match us, hl with | [_, _], _ => rfl
  exact cb_ipos h hb .nil rfl
theorem b_Give_3_option (env : EnvW K w mg pp) (pf : PrgF P fileS) : CbG P w K mg base 4 (He.fAd K ("Give", some "__init__")) ["option"] (spIK K e_Give_3_option) := by
  obtain ⟨fd, F⟩ := env.supr 6 d_Give___init__ rfl
  replace F : FunC K "__init__" "Give.__init__" (defArgs s_Give___init__) (defBody s_Give___init__) (defScope s_Give___init__) [] [("option", (.bl false))] (ccAt K ("Give", some "__init__")) (He.fAd K ("Give", some "__init__")) fd := F
  have h := o_Give___init__' (P := P) (w := w) (base := base) env pf F
  obtain ⟨mv, hb⟩ := F.bK (ps := ["self", "right", "thing", "taker", "option"]) 4 ["option"] [] (fun us mv ws => perm [0, 1, 2, 3, 4] (us ++ (mv ++ ws))) (by simp) (by simp) (fun h1 h2 h3 => perm_vals (h1.append (h2.append h3)) _) fun D doc pm an cdv ct us mv ws h1 h2 h3 => match us, mv, ws, h1, h2, h3 with | [_, _, _, _], [], [_], _, _, _ => rfl
  exact cb_ikw h hb (fun y ws zs h1 h2 => match ws, zs, h1, h2 with | [_, _, _], [_], _, _ => rfl) rfl
theorem b_Preset_3_option (env : EnvW K w mg pp) (pf : PrgF P fileS) : CbG P w K mg base 4 (He.fAd K ("Preset", some "__init__")) ["option"] (spIK K e_Preset_3_option) := by
  obtain ⟨fd, F⟩ := env.supr 7 d_Preset___init__ rfl
  replace F : FunC K "__init__" "Preset.__init__" (defArgs s_Preset___init__) (defBody s_Preset___init__) (defScope s_Preset___init__) [] [("option", (.bl false))] (ccAt K ("Preset", some "__init__")) (He.fAd K ("Preset", some "__init__")) fd := F
  have h := o_Preset___init__' (P := P) (w := w) (base := base) env pf F
  obtain ⟨mv, hb⟩ := F.bK (ps := ["self", "kind", "right", "taker", "option"]) 4 ["option"] [] (fun us mv ws => perm [0, 1, 2, 3, 4] (us ++ (mv ++ ws))) (by simp) (by simp) (fun h1 h2 h3 => perm_vals (h1.append (h2.append h3)) _) fun D doc pm an cdv ct us mv ws h1 h2 h3 => match us, mv, ws, h1, h2, h3 with | [_, _, _, _], [], [_], _, _, _ => rfl
  exact cb_ikw h hb (fun y ws zs h1 h2 => match ws, zs, h1, h2 with | [_, _, _], [_], _, _ => rfl) rfl
theorem b_Take_3_giver_only_option_cascade (env : EnvW K w mg pp) (pf : PrgF P fileS) : CbG P w K mg base 4 (He.fAd K ("Take", some "__init__")) ["giver", "only_option", "cascade"] (spIK K e_Take_3_giver_only_option_cascade) := by
  obtain ⟨fd, F⟩ := env.supr 8 d_Take___init__ rfl
  replace F : FunC K "__init__" "Take.__init__" (defArgs s_Take___init__) (defBody s_Take___init__) (defScope s_Take___init__) [] [("giver", .non), ("only_option", (.bl false)), ("cascade", (.bl false))] (ccAt K ("Take", some "__init__")) (He.fAd K ("Take", some "__init__")) fd := F
  have h := o_Take___init__' (P := P) (w := w) (base := base) env pf F
  obtain ⟨mv, hb⟩ := F.bK (ps := ["self", "right", "thing", "taker", "giver", "only_option", "cascade"]) 4 ["giver", "only_option", "cascade"] [] (fun us mv ws => perm [0, 1, 2, 3, 4, 5, 6] (us ++ (mv ++ ws))) (by simp) (by simp) (fun h1 h2 h3 => perm_vals (h1.append (h2.append h3)) _) fun D doc pm an cdv ct us mv ws h1 h2 h3 => match us, mv, ws, h1, h2, h3 with | [_, _, _, _], [], [_, _, _], _, _, _ => rfl
  exact cb_ikw h hb (fun y ws zs h1 h2 => match ws, zs, h1, h2 with | [_, _, _], [_, _, _], _, _ => rfl) rfl
theorem b_Use_2 (env : EnvW K w mg pp) (pf : PrgF P fileS) : CbG P w K mg base 4 (He.fAd K ("Use", some "__init__")) [] (spIK K e_Use_2) := by
  obtain ⟨fd, F⟩ := env.supr 9 d_Use___init__ rfl
  replace F : FunC K "__init__" "Use.__init__" (defArgs s_Use___init__) (defBody s_Use___init__) (defScope s_Use___init__) [] [] (ccAt K ("Use", some "__init__")) (He.fAd K ("Use", some "__init__")) fd := F
  have h := o_Use___init__' (P := P) (w := w) (base := base) env pf F
  have hb := F.bN (ps := ["self", "right", "thing"]) fun _ _ _ _ _ _ us hl => match us, hl with | [_, _, _], _ => rfl
  exact cb_ipos h hb .nil rfl
theorem k_Call_1 (env : EnvW K w mg pp) (pf : PrgF P fileS) : MkP P w K mg base 4 "Call" [] e_Call_1 := mkP_of (x_19 env) (env.at_ 10) (b_Call_1 (P := P) (w := w) (base := base) env pf)
theorem k_Give_3_option (env : EnvW K w mg pp) (pf : PrgF P fileS) : MkP P w K mg base 4 "Give" ["option"] e_Give_3_option := mkP_of (x_20 env) (env.at_ 8) (b_Give_3_option (P := P) (w := w) (base := base) env pf)
theorem k_Preset_3_option (env : EnvW K w mg pp) (pf : PrgF P fileS) : MkP P w K mg base 4 "Preset" ["option"] e_Preset_3_option := mkP_of (x_21 env) (env.at_ 11) (b_Preset_3_option (P := P) (w := w) (base := base) env pf)
theorem k_Take_3_giver_only_option_cascade (env : EnvW K w mg pp) (pf : PrgF P fileS) : MkP P w K mg base 4 "Take" ["giver", "only_option", "cascade"] e_Take_3_giver_only_option_cascade := mkP_of (x_22 env) (env.at_ 9) (b_Take_3_giver_only_option_cascade (P := P) (w := w) (base := base) env pf)
theorem k_Use_2 (env : EnvW K w mg pp) (pf : PrgF P fileS) : MkP P w K mg base 4 "Use" [] e_Use_2 := mkP_of (x_23 env) (env.at_ 12) (b_Use_2 (P := P) (w := w) (base := base) env pf)
theorem sc__law_made : FnScope ["_law_row"] ["_law_row"] (defScope s__law_made) := ⟨rfl, rfl, rfl, by decide +kernel, rfl, by decide +kernel, by decide +kernel⟩
theorem o__law_made' (env : EnvW K w mg pp) (pf : PrgF P fileS) {a : Addr} {fd : FuncData} (F : FunD K "_law_made" "_law_made" (defArgs s__law_made) (defBody s__law_made) (defScope s__law_made) [] [] a fd) : VI.FnOk P w K mg base (CV P w) 6 a fd ["_law_row"] (spOf K f__law_made) := by
  have m_Call_1 := (k_Call_1 (P := P) (w := w) (base := base) env pf).mono (k := 4) (by decide)
  have m_Give_3_option := (k_Give_3_option (P := P) (w := w) (base := base) env pf).mono (k := 4) (by decide)
  have m_Preset_3_option := (k_Preset_3_option (P := P) (w := w) (base := base) env pf).mono (k := 4) (by decide)
  have m_Take_3_giver_only_option_cascade := (k_Take_3_giver_only_option_cascade (P := P) (w := w) (base := base) env pf).mono (k := 4) (by decide)
  have m_Use_2 := (k_Use_2 (P := P) (w := w) (base := base) env pf).mono (k := 4) (by decide)
  have SC := sc__law_made
  refine fn_ok F SC fun cdv A outer s H E hr bx => ?_
  exact ⟨_, (sss_cons (ss_if (st_eqD hr.units (se_ix (room1 hr) (se_var 0) se_int) se_str) (sss_one (ss_ret (se_makeK m_Give_3_option hr bx.at_ (sa_cons (se_ix (room1 hr) (se_var 0) se_int) (sa_cons (se_ix (room1 hr) (se_var 0) se_int) (sa_cons (se_ix (room1 hr) (se_var 0) se_int) sa_nil))) (sk_cons (se_ix (room1 hr) (se_var 0) se_int) sk_nil)))) sss_nil) (sss_cons (ss_if (st_eqD hr.units (se_ix (room1 hr) (se_var 0) se_int) se_str) (sss_one (ss_ret (se_makeK m_Take_3_giver_only_option_cascade hr bx.at_ (sa_cons (se_ix (room1 hr) (se_var 0) se_int) (sa_cons (se_ix (room1 hr) (se_var 0) se_int) (sa_cons (se_ix (room1 hr) (se_var 0) se_int) sa_nil))) (sk_cons (se_ix (room1 hr) (se_var 0) se_int) (sk_cons (se_ix (room1 hr) (se_var 0) se_int) (sk_cons (se_ix (room1 hr) (se_var 0) se_int) sk_nil)))))) sss_nil) (sss_cons (ss_if (st_eqD hr.units (se_ix (room1 hr) (se_var 0) se_int) se_str) (sss_one (ss_ret (se_make m_Call_1 hr bx.at_ (sa_cons (se_ix (room1 hr) (se_var 0) se_int) sa_nil)))) sss_nil) (sss_cons (ss_if (st_eqD hr.units (se_ix (room1 hr) (se_var 0) se_int) se_str) (sss_one (ss_ret (se_makeK m_Preset_3_option hr bx.at_ (sa_cons (se_ix (room1 hr) (se_var 0) se_int) (sa_cons (se_ix (room1 hr) (se_var 0) se_int) (sa_cons (se_ix (room1 hr) (se_var 0) se_int) sa_nil))) (sk_cons (se_ix (room1 hr) (se_var 0) se_int) sk_nil)))) sss_nil) (sss_one (ss_ret (se_make m_Use_2 hr bx.at_ (sa_cons (se_ix (room1 hr) (se_var 0) se_int) (sa_cons (se_ix (room1 hr) (se_var 0) se_int) sa_nil)))))))))⟩
theorem k__law_made_1 (env : EnvW K w mg pp) (pf : PrgF P fileS) : FnP P w K mg base 6 "_law_made" [] f__law_made := by
  obtain ⟨fd, F⟩ := env.defs 18 d__law_made rfl
  replace F : FunD K "_law_made" "_law_made" (defArgs s__law_made) (defBody s__law_made) (defScope s__law_made) [] [] (He.ga K "_law_made") fd := F
  have hb := F.bindsN (ps := ["_law_row"]) fun _ _ _ _ _ _ us hl => match us, hl with | [_], _ => rfl
  exact ⟨_, fd, _, _, o__law_made' (P := P) (w := w) (base := base) env pf F, env.at_ 34, F.kp, hb, .nil, rfl⟩
theorem sc__law_found : FnScope ["_law_row", "e"] ["_law_row"] (defScope s__law_found) := ⟨rfl, rfl, rfl, by decide +kernel, rfl, by decide +kernel, by decide +kernel⟩
theorem o__law_found' (env : EnvW K w mg pp) (pf : PrgF P fileS) {a : Addr} {fd : FuncData} (F : FunD K "_law_found" "_law_found" (defArgs s__law_found) (defBody s__law_found) (defScope s__law_found) [] [] a fd) : VI.FnOk P w K mg base (CV P w) 7 a fd ["_law_row"] (spOf K f__law_found) := by
  have h__law_made_1 := (k__law_made_1 (P := P) (w := w) (base := base) env pf).mono (k := 6) (by decide)
  have SC := sc__law_found
  refine fn_ok F SC fun cdv A outer s H E hr bx => ?_
  exact ⟨_, (sss_cons (ss_try (x_5 env) SC.nd bx (fun W2 pn xe bx => (sss_one (ss_expr (se_call h__law_made_1 hr bx.at_ (sa_cons (se_var 0) sa_nil))))) (.as (cs := ["InvalidName"]) (tests_one ⟨rfl, by decide, .inl (env.at_ 7)⟩) rfl rfl rfl (sxs_ret1 (sx_lst (sxa_cons (sx_of rfl fun _ _ _ => se_str) (sxa_cons (sx_f ["InvalidName"] rfl (xfs_of (x_4 env))) (sxa_nil rfl))))) (.as (cs := ["InvalidRight"]) (tests_one ⟨rfl, by decide, .inl (env.at_ 6)⟩) rfl rfl rfl (sxs_ret1 (sx_lst (sxa_cons (sx_of rfl fun _ _ _ => se_str) (sxa_cons (sx_f ["InvalidRight"] rfl (xfs_of (x_3 env))) (sxa_nil rfl))))) (.as (cs := ["InvalidTaker"]) (tests_one ⟨rfl, by decide, .inl (env.at_ 5)⟩) rfl rfl rfl (sxs_ret1 (sx_lst (sxa_cons (sx_of rfl fun _ _ _ => se_str) (sxa_cons (sx_f ["InvalidTaker"] rfl (xfs_of (x_2 env))) (sxa_nil rfl))))) (.as (cs := ["InvalidFlag"]) (tests_one ⟨rfl, by decide, .inl (env.at_ 4)⟩) rfl rfl rfl (sxs_ret1 (sx_lst (sxa_cons (sx_of rfl fun _ _ _ => se_str) (sxa_cons (sx_f ["InvalidFlag"] rfl (xfs_of (x_1 env))) (sxa_nil rfl))))) (.as (cs := ["InvalidKind"]) (tests_one ⟨rfl, by decide, .inl (env.at_ 3)⟩) rfl rfl rfl (sxs_ret1 (sx_lst (sxa_cons (sx_of rfl fun _ _ _ => se_str) (sxa_cons (sx_f ["InvalidKind"] rfl (xfs_of (x_0 env))) (sxa_nil rfl))))) (.cons (cs := ["RoleError", "MissingError", "StateError"]) (tests_tup3 ⟨rfl, by decide, .inl (env.at_ 0)⟩ ⟨rfl, by decide, .inl (env.at_ 1)⟩ ⟨rfl, by decide, .inl (env.at_ 2)⟩) rfl (sxs_ret1 (sx_lst (sxa_cons (sx_of rfl fun _ _ _ => se_str) (sxa_cons (sx_of rfl fun _ _ _ => se_non) (sxa_nil rfl))))) .nil))))))) (sss_one (ss_ret (se_lst (sa_cons se_str (sa_cons se_non sa_nil))))))⟩
theorem k__law_found_1 (env : EnvW K w mg pp) (pf : PrgF P fileS) : FnP P w K mg base 7 "_law_found" [] f__law_found := by
  obtain ⟨fd, F⟩ := env.defs 19 d__law_found rfl
  replace F : FunD K "_law_found" "_law_found" (defArgs s__law_found) (defBody s__law_found) (defScope s__law_found) [] [] (He.ga K "_law_found") fd := F
  have hb := F.bindsN (ps := ["_law_row"]) fun _ _ _ _ _ _ us hl => match us, hl with | [_], _ => rfl
  exact ⟨_, fd, _, _, o__law_found' (P := P) (w := w) (base := base) env pf F, env.at_ 35, F.kp, hb, .nil, rfl⟩
theorem sc__law_take : FnScope ["_law_box_here", "_law_many", "_law_digit", "_law_number"] ["_law_box_here", "_law_many"] (defScope s__law_take) := ⟨rfl, rfl, rfl, by decide +kernel, rfl, by decide +kernel, by decide +kernel⟩
theorem o__law_take' (env : EnvW K w mg pp) (pf : PrgF P fileS) {a : Addr} {fd : FuncData} (F : FunD K "_law_take" "_law_take" (defArgs s__law_take) (defBody s__law_take) (defScope s__law_take) [] [] a fd) : VI.FnOk P w K mg base (CV P w) 1 a fd ["_law_box_here", "_law_many"] (spOf K f__law_take) := by
  have SC := sc__law_take
  refine fn_ok F SC fun cdv A outer s H E hr bx => ?_
  exact ⟨_, (sss_cons (ss_if (st_gt (se_ix (room1 hr) (se_var 0) se_int) se_int) (sss_cons (ss_how .own 2 (se_mod (se_ix (room1 hr) (se_var 0) se_int) (se_var 1)) SC.nd) (sss_cons (ss_store (room1 hr) (se_div (se_ix (room1 hr) (se_var 0) se_int) (se_var 1)) (se_var 0) se_int) (sss_one (ss_ret (se_var 2))))) sss_nil) (sss_cons (ss_store (room1 hr) (se_add (se_ix (room1 hr) (se_var 0) se_int) se_int) (se_var 0) se_int) (sss_cons (ss_how .own 3 (se_mod (se_pow (se_add (se_add (se_ix (room1 hr) (se_var 0) se_int) (se_mul se_int (se_ix (room1 hr) (se_var 0) se_int))) se_int) se_int) se_int) SC.nd) (sss_cons (ss_how .own 3 (se_mod (se_pow (se_add (se_var 3) (se_mul se_int (se_ix (room1 hr) (se_var 0) se_int))) se_int) se_int) SC.nd) (sss_one (ss_ret (se_mod (se_div (se_var 3) se_int) (se_var 1))))))))⟩
theorem k__law_take_2 (env : EnvW K w mg pp) (pf : PrgF P fileS) : FnP P w K mg base 1 "_law_take" [] f__law_take := by
  obtain ⟨fd, F⟩ := env.defs 20 d__law_take rfl
  replace F : FunD K "_law_take" "_law_take" (defArgs s__law_take) (defBody s__law_take) (defScope s__law_take) [] [] (He.ga K "_law_take") fd := F
  have hb := F.bindsN (ps := ["_law_box_here", "_law_many"]) fun _ _ _ _ _ _ us hl => match us, hl with | [_, _], _ => rfl
  exact ⟨_, fd, _, _, o__law_take' (P := P) (w := w) (base := base) env pf F, env.at_ 36, F.kp, hb, .nil, rfl⟩
theorem sc__law_names : FnScope ["_law_box_here", "_law_many", "_law_letters", "_law_stems", "_law_way", "_law_first", "_law_at", "_law_stem", "_law_found_here", "_law_k", "_law_letter", "_law_group"] ["_law_box_here", "_law_many"] (defScope s__law_names) := ⟨rfl, rfl, rfl, by decide +kernel, rfl, by decide +kernel, by decide +kernel⟩
theorem o__law_names' (env : EnvW K w mg pp) (pf : PrgF P fileS) {a : Addr} {fd : FuncData} (F : FunD K "_law_names" "_law_names" (defArgs s__law_names) (defBody s__law_names) (defScope s__law_names) [] [] a fd) : VI.FnOk P w K mg base (CV P w) 2 a fd ["_law_box_here", "_law_many"] (spOf K f__law_names) := by
  have h__law_take_2 := (k__law_take_2 (P := P) (w := w) (base := base) env pf).mono (k := 1) (by decide)
  have SC := sc__law_names
  refine fn_ok F SC fun cdv A outer s H E hr bx => ?_
  exact ⟨_, (sss_cons (ss_asg (se_tup (sa_cons se_str (sa_cons se_str sa_nil))) (sg_tup 2 (sgs_cons (sg_name 2 SC.nd) (sgs_cons (sg_name 3 SC.nd) sgs_nil)))) (sss_cons (ss_par3 4 5 6 (sa_cons (se_call h__law_take_2 hr bx.at_ (sa_cons (se_var 0) (sa_cons se_int sa_nil))) (sa_cons (se_call h__law_take_2 hr bx.at_ (sa_cons (se_var 0) (sa_cons se_int sa_nil))) (sa_cons (se_call h__law_take_2 hr bx.at_ (sa_cons (se_var 0) (sa_cons se_int sa_nil))) sa_nil))) SC.nd) (sss_cons (ss_how .own 7 (se_join se_str (se_comp [("_law_k", 9)] SC.nd (si_range1 (sa_cons se_int sa_nil) rfl env.f_range) (fun _ _ _ _ _ => (sg_name 9 SC.nd)) (fun _ _ _ _ _ => sts_nil) (fun _ _ _ _ _ => (se_ix (room1 hr) (se_var 3) (se_call h__law_take_2 hr (fun _ => passAt VI.takes0 _) (sa_cons (se_var 0) (sa_cons se_int sa_nil))))))) SC.nd) (sss_cons (ss_how .own 8 (se_lst sa_nil) SC.nd) (sss_cons (ss_for (si_range1 (sa_cons (se_var 1) sa_nil) rfl env.f_range) (sg_name 9 SC.nd) (sss_cons (ss_how .own 10 (se_ix (room1 hr) (se_var 2) (se_mod (se_add (se_var 5) (se_mul se_int (se_var 9))) se_int)) SC.nd) (sss_cons (ss_how .own 11 (se_ix (room1 hr) (se_var 2) (se_mod (se_add (se_var 5) (se_div (se_var 9) se_int)) se_int)) SC.nd) (sss_one (ss_expr (se_append (se_var 8) (sa_cons (se_ix (room1 hr) (se_lst (sa_cons (se_add (se_add (se_slice (se_var 7) so_none (so_some (se_var 6))) (se_var 10)) (se_slice (se_var 7) (so_some (se_var 6)) so_none)) (sa_cons (se_add (se_var 10) (se_slice (se_var 7) so_none (so_some (se_mod (se_var 9) se_int)))) (sa_cons (se_add (se_var 11) (se_slice (se_var 7) so_none (so_some (se_mod (se_var 9) se_int)))) sa_nil)))) (se_var 4)) sa_nil)))))) bx.own) (sss_one (ss_ret (se_var 8))))))))⟩
theorem k__law_names_2 (env : EnvW K w mg pp) (pf : PrgF P fileS) : FnP P w K mg base 2 "_law_names" [] f__law_names := by
  obtain ⟨fd, F⟩ := env.defs 21 d__law_names rfl
  replace F : FunD K "_law_names" "_law_names" (defArgs s__law_names) (defBody s__law_names) (defScope s__law_names) [] [] (He.ga K "_law_names") fd := F
  have hb := F.bindsN (ps := ["_law_box_here", "_law_many"]) fun _ _ _ _ _ _ us hl => match us, hl with | [_, _], _ => rfl
  exact ⟨_, fd, _, _, o__law_names' (P := P) (w := w) (base := base) env pf F, env.at_ 37, F.kp, hb, .nil, rfl⟩
theorem sc__law_odd : FnScope ["_law_box_here", "_law_some"] ["_law_box_here"] (defScope s__law_odd) := ⟨rfl, rfl, rfl, by decide +kernel, rfl, by decide +kernel, by decide +kernel⟩
theorem o__law_odd' (env : EnvW K w mg pp) (pf : PrgF P fileS) {a : Addr} {fd : FuncData} (F : FunD K "_law_odd" "_law_odd" (defArgs s__law_odd) (defBody s__law_odd) (defScope s__law_odd) [] [] a fd) : VI.FnOk P w K mg base (CV P w) 2 a fd ["_law_box_here"] (spOf K f__law_odd) := by
  have h__law_take_2 := (k__law_take_2 (P := P) (w := w) (base := base) env pf).mono (k := 1) (by decide)
  have SC := sc__law_odd
  refine fn_ok F SC fun cdv A outer s H E hr bx => ?_
  exact ⟨_, (sss_cons (ss_how .own 1 (se_lst (sa_cons se_non (sa_cons se_bl (sa_cons se_int (sa_cons se_int (sa_cons se_str (sa_cons se_str (sa_cons se_str (sa_cons se_str (sa_cons se_str (sa_cons se_str (sa_cons se_str (sa_cons se_str (sa_cons (se_cell (se_lst sa_nil)) (sa_cons (se_cell (se_lst (sa_cons se_str sa_nil))) (sa_cons (se_cell se_dnewK) sa_nil)))))))))))))))) SC.nd) (sss_cons (ss_how .own 1 (se_add (se_var 1) (se_lst (sa_cons (se_tup (sa_cons se_str sa_nil)) (sa_cons se_str (sa_cons se_str (sa_cons se_str (sa_cons se_str (sa_cons se_str (sa_cons (se_pow se_int se_int) (sa_cons se_bl (sa_cons se_str sa_nil))))))))))) SC.nd) (sss_one (ss_ret (se_ix (room1 hr) (se_var 1) (se_call h__law_take_2 hr bx.at_ (sa_cons (se_var 0) (sa_cons se_int sa_nil))))))))⟩
theorem k__law_odd_1 (env : EnvW K w mg pp) (pf : PrgF P fileS) : FnP P w K mg base 2 "_law_odd" [] f__law_odd := by
  obtain ⟨fd, F⟩ := env.defs 22 d__law_odd rfl
  replace F : FunD K "_law_odd" "_law_odd" (defArgs s__law_odd) (defBody s__law_odd) (defScope s__law_odd) [] [] (He.ga K "_law_odd") fd := F
  have hb := F.bindsN (ps := ["_law_box_here"]) fun _ _ _ _ _ _ us hl => match us, hl with | [_], _ => rfl
  exact ⟨_, fd, _, _, o__law_odd' (P := P) (w := w) (base := base) env pf F, env.at_ 38, F.kp, hb, .nil, rfl⟩
theorem sc__law_parts : FnScope ["_law_box_here", "_law_names_here", "_law_way", "_law_flags", "_law_word", "_law_rows", "_law_preset", "_law_found_here", "_law_turn"] ["_law_box_here"] (defScope s__law_parts) := ⟨rfl, rfl, rfl, by decide +kernel, rfl, by decide +kernel, by decide +kernel⟩
theorem o__law_parts' (env : EnvW K w mg pp) (pf : PrgF P fileS) {a : Addr} {fd : FuncData} (F : FunD K "_law_parts" "_law_parts" (defArgs s__law_parts) (defBody s__law_parts) (defScope s__law_parts) [] [] a fd) : VI.FnOk P w K mg base (CV P w) 3 a fd ["_law_box_here"] (spOf K f__law_parts) := by
  have h__law_names_2 := (k__law_names_2 (P := P) (w := w) (base := base) env pf).mono (k := 2) (by decide)
  have h__law_odd_1 := (k__law_odd_1 (P := P) (w := w) (base := base) env pf).mono (k := 2) (by decide)
  have h__law_take_2 := (k__law_take_2 (P := P) (w := w) (base := base) env pf).mono (k := 2) (by decide)
  have SC := sc__law_parts
  refine fn_ok F SC fun cdv A outer s H E hr bx => ?_
  exact ⟨_, (sss_cons (ss_how .own 1 (se_call h__law_names_2 hr bx.at_ (sa_cons (se_var 0) (sa_cons se_int sa_nil))) SC.nd) (sss_cons (ss_how .own 2 (se_call h__law_take_2 hr bx.at_ (sa_cons (se_var 0) (sa_cons se_int sa_nil))) SC.nd) (sss_cons (ss_how .own 3 (se_lst (sa_cons (se_eqD hr.units (se_call h__law_take_2 hr bx.at_ (sa_cons (se_var 0) (sa_cons se_int sa_nil))) se_int) (sa_cons (se_eqD hr.units (se_call h__law_take_2 hr bx.at_ (sa_cons (se_var 0) (sa_cons se_int sa_nil))) se_int) sa_nil))) SC.nd) (sss_cons (ss_how .own 4 (se_ix (room1 hr) (se_lst (sa_cons se_str (sa_cons se_str (sa_cons se_str (sa_cons se_str (sa_cons se_str sa_nil)))))) (se_call h__law_take_2 hr bx.at_ (sa_cons (se_var 0) (sa_cons se_int sa_nil)))) SC.nd) (sss_cons (ss_how .own 5 (se_lst (sa_cons (se_cell (se_lst (sa_cons se_str (sa_cons (se_var 4) (sa_cons (se_ix (room1 hr) (se_var 1) se_int) (sa_cons (se_ix (room1 hr) (se_var 1) se_int) (sa_cons (se_ix (room1 hr) (se_var 3) se_int) sa_nil))))))) (sa_cons (se_cell (se_add (se_lst (sa_cons se_str (sa_cons (se_var 4) (sa_cons (se_ix (room1 hr) (se_var 1) se_int) (sa_cons (se_ix (room1 hr) (se_var 1) se_int) (sa_cons (se_ix (room1 hr) (se_var 1) se_int) sa_nil)))))) (se_var 3))) sa_nil))) SC.nd) (sss_cons (ss_how .own 6 (se_ix (room1 hr) (se_lst (sa_cons (se_cell (se_lst (sa_cons se_str (sa_cons se_str sa_nil)))) (sa_cons (se_cell (se_lst (sa_cons se_str (sa_cons se_str sa_nil)))) (sa_cons (se_cell (se_lst (sa_cons se_str (sa_cons se_str sa_nil)))) sa_nil)))) (se_call h__law_take_2 hr bx.at_ (sa_cons (se_var 0) (sa_cons se_int sa_nil)))) SC.nd) (sss_cons (ss_how .own 5 (se_add (se_var 5) (se_lst (sa_cons (se_cell (se_lst (sa_cons se_str (sa_cons (se_ix (room1 hr) (se_var 1) se_int) sa_nil)))) (sa_cons (se_cell (se_add (se_add (se_lst (sa_cons se_str sa_nil)) (se_var 6)) (se_lst (sa_cons (se_ix (room1 hr) (se_var 1) se_int) (sa_cons (se_ix (room1 hr) (se_var 3) se_int) sa_nil))))) sa_nil)))) SC.nd) (sss_cons (ss_how .own 7 (se_ix (room1 hr) (se_add (se_var 5) (se_lst (sa_cons (se_cell (se_lst (sa_cons se_str (sa_cons (se_var 4) (sa_cons (se_ix (room1 hr) (se_var 1) se_int) sa_nil))))) sa_nil))) (se_var 2)) SC.nd) (sss_cons (ss_for (si_range1 (sa_cons (se_add se_int (se_call h__law_take_2 hr bx.at_ (sa_cons (se_var 0) (sa_cons se_int sa_nil)))) sa_nil) rfl env.f_range) (sg_name 8 SC.nd) (sss_one (ss_store (room1 hr) (se_call h__law_odd_1 hr bx.at_ (sa_cons (se_var 0) sa_nil)) (se_var 7) (se_add se_int (se_call h__law_take_2 hr bx.at_ (sa_cons (se_var 0) (sa_cons (se_sub (se_len env.f_len (sv_cons (se_var 7) sv_nil)) se_int) sa_nil)))))) bx.own) (sss_one (ss_ret (se_var 7))))))))))))⟩
theorem k__law_parts_1 (env : EnvW K w mg pp) (pf : PrgF P fileS) : FnP P w K mg base 3 "_law_parts" [] f__law_parts := by
  obtain ⟨fd, F⟩ := env.defs 23 d__law_parts rfl
  replace F : FunD K "_law_parts" "_law_parts" (defArgs s__law_parts) (defBody s__law_parts) (defScope s__law_parts) [] [] (He.ga K "_law_parts") fd := F
  have hb := F.bindsN (ps := ["_law_box_here"]) fun _ _ _ _ _ _ us hl => match us, hl with | [_], _ => rfl
  exact ⟨_, fd, _, _, o__law_parts' (P := P) (w := w) (base := base) env pf F, env.at_ 39, F.kp, hb, .nil, rfl⟩
theorem sc_law : FnScope ["_law_script", "_law_k", "_law_box_here", "_law_turn", "_law_row", "_law_found_here", "_law_due_here"] ["_law_script"] (defScope s_law) := ⟨rfl, rfl, rfl, by decide +kernel, rfl, by decide +kernel, by decide +kernel⟩
theorem o_law' (env : EnvW K w mg pp) (pf : PrgF P fileS) {a : Addr} {fd : FuncData} (F : FunD K "law" "law" (defArgs s_law) (defBody s_law) (defScope s_law) [] [] a fd) : VI.FnOk P w K mg base (CV P w) 8 a fd ["_law_script"] (spOf K f_law) := by
  have h__law_box_1 := (k__law_box_1 (P := P) (w := w) (base := base) env pf).mono (k := 7) (by decide)
  have h__law_cell_2 := (k__law_cell_2 (P := P) (w := w) (base := base) env pf).mono (k := 7) (by decide)
  have h__law_due_1 := (k__law_due_1 (P := P) (w := w) (base := base) env pf).mono (k := 7) (by decide)
  have h__law_found_1 := (k__law_found_1 (P := P) (w := w) (base := base) env pf).mono (k := 7) (by decide)
  have h__law_parts_1 := (k__law_parts_1 (P := P) (w := w) (base := base) env pf).mono (k := 7) (by decide)
  have SC := sc_law
  refine fn_ok F SC fun cdv A outer s H E hr bx => ?_
  exact ⟨_, (sss_cons (ss_for (si_range1 (sa_cons (se_max env.f_max (sv_cons se_int (sv_cons (se_min env.f_min (sv_cons se_int (sv_cons (se_len env.f_len (sv_cons (se_var 0) sv_nil)) sv_nil))) sv_nil))) sa_nil) rfl env.f_range) (sg_name 1 SC.nd) (sss_cons (ss_how .cell 2 (se_call h__law_box_1 hr bx.at_ (sa_cons (se_call h__law_cell_2 hr bx.at_ (sa_cons (se_var 0) (sa_cons (se_var 1) sa_nil))) sa_nil)) SC.nd) (sss_one (ss_for (si_range1 (sa_cons se_int sa_nil) rfl env.f_range) (sg_name 3 SC.nd) (sss_cons (ss_how .own 4 (se_call h__law_parts_1 hr bx.at_ (sa_cons (se_var 2) sa_nil)) SC.nd) (sss_cons (ss_par 5 6 (sa_cons (se_call h__law_found_1 hr bx.at_ (sa_cons (se_var 4) sa_nil)) (sa_cons (se_call h__law_due_1 hr bx.at_ (sa_cons (se_var 4) sa_nil)) sa_nil)) SC.nd) (sss_cons (ss_if (st_val (se_isi env.f_isinstance (sv_cons (se_ix (room1 hr) (se_var 6) se_int) (sv_cons (se_tyv PyProof.Rows.boot_list env.f_list) sv_nil)))) (sss_one (ss_expr (se_append (se_ix (room1 hr) (se_var 6) se_int) (sa_cons se_str sa_nil)))) sss_nil) (sss_cons (ss_if (st_val (se_isi env.f_isinstance (sv_cons (se_ix (room1 hr) (se_var 6) se_int) (sv_cons (se_tyv PyProof.Rows.boot_dict env.f_dict) sv_nil)))) (sss_one (ss_store (room1 hr) se_str (se_ix (room1 hr) (se_var 6) se_int) (se_len env.f_len (sv_cons (se_ix (room1 hr) (se_var 6) se_int) sv_nil)))) sss_nil) (sss_one (ss_if (st_ne hr.units (se_reprS hr env.f_repr (sv_cons (se_var 5) sv_nil)) (se_reprS hr env.f_repr (sv_cons (se_var 6) sv_nil))) (sss_one (ss_ret se_bl)) sss_nil)))))) bx.own))) bx.own) (sss_one (ss_ret se_bl)))⟩
end
abbrev lawLevel : Nat := 8
abbrev lawDef : Nat := 24
abbrev lawIx : Nat := 40
end K07
end
section
set_option Elab.async false
set_option linter.all false
set_option maxRecDepth 100000
set_option maxHeartbeats 1000000
/-! M07: the plain law of k07: names, rights, takers, flags: told from all values. -/
namespace K07
open PySem PySem.Spec L2 VI

/-! ### names, rights, takers -/
theorem strD_eq (x y : Str) : fEqD (.str x) (.str y) = some (.im (.bl (decide (x = y)))) := by simp [fEqD, str_eq]
theorem intD_eq (i j : Int) : fEqD (.int i) (.int j) = some (.im (.bl (decide (i = j)))) := by simp [fEqD, int_eq]
def NameOk (x : Str) : Prop := (1 ≤ x.length ∧ x.length ≤ 8) ∧ x ≠ "public" ∧ x ≠ "caller" ∧ ∀ c ∈ x.cps.toList, 97 ≤ c ∧ c ≤ 122
def rights : List Str := ["inherit", "act", "read", "write", "call"]
def TakerOk (x : Str) : Prop := NameOk x ∨ x = "public"
theorem letters {c : Nat} (h1 : 97 ≤ c) (h2 : c ≤ 122) : c ∈ (Str.ofString "abcdefghijklmnopqrstuvwxyz").cps.toList := by
  have e : (Str.ofString "abcdefghijklmnopqrstuvwxyz").cps.toList = List.range' 97 26 := by decide +kernel
  rw [e, List.mem_range']
  exact ⟨c - 97, by omega, by omega⟩
variable {X : Xc → List Ob → Prop}
theorem small {n : Nat} (h : n ≤ 1000) : n ≤ sizeLine := by rw [sizeLine_eq]; omega
theorem is_name_ok {x : Str} {st : List Ob} (h : NameOk x) (Q : Va → List Ob → Prop) (hq : Q (.im (.bl true)) st) : WpF (f_is_name [.str x] st) Q X := by
  obtain ⟨⟨h1, h2⟩, h3, h4, h5⟩ := h
  have hz : x.length ≤ sizeLine := small (by omega)
  have e1 : fLen [.str x] = some (.im (.int x.length)) := by simp [fLen, hz]
  have e2 : (1 : Int) ≤ x.length := by omega
  have e3 : (x.length : Int) ≤ 8 := by omega
  have e4 : fIn (.str x) (.tup [.str (Str.ofString "public"), .str (Str.ofString "caller")]) = some (.im (.bl false)) := by
    refine (in_strsT x [Str.ofString "public", Str.ofString "caller"]).trans ?_
    simp [h3, h4]
  simp only [f_is_name, wpf_fn, ws_seq]
  simp [str_isi, tru, e1, e2, e3, e4, small]
  refine wp_comp_pure (fun d => match d with
    | .str z => some (.bl true)
    | _ => none) ?_
  simp [itOf, hz]
  refine ⟨fun c hc => ?_, ?_, ?_⟩
  · have hc' := h5 c (by simpa using hc)
    have e : fIn (.str ⟨#[c]⟩) (.str (Str.ofString "abcdefghijklmnopqrstuvwxyz")) = some (.im (.bl true)) := by
      rw [in_sign]
      simp only [letters hc'.1 hc'.2, decide_true]
    simp [gvName, W1, e, wipeS, wipeE]
  · simpa [Str.length] using hz
  · have e : ∀ l : List Nat, (fBls gAll [.lst (List.filterMap ((fun d => match d with
      | D.str z => some (D.bl true)
      | _ => none) ∘ fun c => D.str ⟨#[c]⟩) l)]) = some (.im (.bl true)) := fun l => by
      have q : List.filterMap ((fun d => match d with
        | D.str z => some (D.bl true)
        | _ => none) ∘ fun c => D.str ⟨#[c]⟩) l = l.map fun _ => D.bl true := by
        induction l with
        | nil => rfl
        | cons a l ih => simp [List.filterMap_cons, ih]
      rw [q]
      have b : ∀ l : List Nat, blsOf (l.map fun _ => D.bl true) = some (l.map fun _ => true) := fun l => by
        induction l with
        | nil => rfl
        | cons a l ih => simp [blsOf, ih]
      simp [fBls, lstOf, b, gAll]
    rw [e]
    simp
    exact hq
theorem need_name_ok {x : Str} {st : List Ob} (h : NameOk x) (Q : Va → List Ob → Prop) (hq : Q (.im .non) st) : WpF (f_need_name [.str x] st) Q X := by
  simp [f_need_name]
  refine is_name_ok h _ ?_
  simp [tru]
  exact hq
theorem rights_tz : c_RIGHTS.map dvD = rights.map .str := rfl
theorem is_right_ok {x : Str} {st : List Ob} (h : x ∈ rights) (Q : Va → List Ob → Prop) (hq : Q (.im (.bl true)) st) : WpF (f_is_right [.str x] st) Q X := by
  simp [f_is_right, str_isi, tru, rights_tz, in_strsZ, h]
  exact hq
theorem need_right_ok {x : Str} {st : List Ob} (h : x ∈ rights) (Q : Va → List Ob → Prop) (hq : Q (.im .non) st) : WpF (f_need_right [.str x] st) Q X := by
  simp [f_need_right]
  refine is_right_ok h _ ?_
  simp [tru]
  exact hq
theorem public_no {st : List Ob} (Q : Va → List Ob → Prop) (hq : Q (.im (.bl false)) st) : WpF (f_is_name [.str (Str.ofString "public")] st) Q X := by
  have hl : (Str.ofString "public").length = 6 := by decide +kernel
  have e1 : fLen [.str (Str.ofString "public")] = some (.im (.int 6)) := by
    simp only [fLen, hl, small (show 6 ≤ 1000 by decide), if_true]
    rfl
  have e4 : fIn (.str (Str.ofString "public")) (.tup [.str (Str.ofString "public"), .str (Str.ofString "caller")]) = some (.im (.bl true)) := by
    refine (in_strsT (Str.ofString "public") [Str.ofString "public", Str.ofString "caller"]).trans ?_
    simp
  simp only [f_is_name, wpf_fn, ws_seq]
  simp [str_isi, tru, e1, e4, small]
  exact hq
theorem is_taker_ok {x : Str} {st : List Ob} (h : TakerOk x) (Q : Va → List Ob → Prop) (hq : Q (.im (.bl true)) st) : WpF (f_is_taker [.str x] st) Q X := by
  simp [f_is_taker]
  rcases h with h | rfl
  · refine is_name_ok h _ ?_
    simp [tru]
    exact hq
  · refine public_no _ ?_
    simp [tru, str_isi, strD_eq]
    exact hq
theorem need_taker_ok {x : Str} {st : List Ob} (h : TakerOk x) (Q : Va → List Ob → Prop) (hq : Q (.im .non) st) : WpF (f_need_taker [.str x] st) Q X := by
  simp [f_need_taker]
  refine is_taker_ok h _ ?_
  simp [tru]
  exact hq
theorem need_flag_ok {b : Bool} {x : Str} {st : List Ob} (h : b = true → x ≠ "public") (Q : Va → List Ob → Prop) (hq : Q (.im .non) st) : WpF (f_need_flag [.bl b, .str x] st) Q X := by
  simp [f_need_flag, f_is_flag, bl_isi, tru]
  cases b with
  | false => simp; exact hq
  | true => simp [strD_eq, h rfl]; exact hq
def opt (b : Bool) (x : Str) : List Str := if b = true then [x] else []
theorem opt_len (b : Bool) (x : Str) : (opt b x).length ≤ 1 := by cases b <;> simp [opt]
theorem flagged_ok {b : Bool} {x : Str} {st : List Ob} (Q : Va → List Ob → Prop) (hq : Q (.fr (.lst ((opt b x).map .str))) st) : WpF (f_flagged [.str x, .bl b] st) Q X := by
  have h1 : (1 : Nat) ≤ sizeLine := by decide
  cases b with
  | true => simp [f_flagged, tru, h1]; exact hq
  | false => simp [f_flagged, tru]; exact hq
/-! ### values of all kinds -/
/-- a text of the law -/
def Tx (z : Str) : Prop := z.length ≤ 10 ∧ ∀ c ∈ z.cps.toList, 32 ≤ c ∧ c ≤ 122
inductive GV (st : List Ob) : D → Prop
  | str {z : Str} : Tx z → GV st (.str z)
  | non : GV st .non
  | bl (b : Bool) : GV st (.bl b)
  | int {i : Int} : (i = 0 ∨ i = 1 ∨ i = 10 ^ 29) → GV st (.int i)
  | tup : GV st (.tup [.str "ann"])
  | nil {m : Nat} : st[m]? = some (.lst []) → GV st (.ref m)
  | one {m : Nat} : st[m]? = some (.lst [.str "ann"]) → GV st (.ref m)
  | dk {m : Nat} : st[m]? = some (.dk []) → GV st (.ref m)
/-- what is no text: what its type tells, its equality with a text -/
theorem nt_isi {st : List Ob} {v : D} (h : GV st v) : (∃ z, v = .str z ∧ Tx z) ∨ ∃ d, (∀ e, rd (.im v) ⟨e, st⟩ = some d) ∧ fIsi [d, .ty "str"] = some (.im (.bl false)) ∧ (∀ y : Str, fEqD d (.str y) = some (.im (.bl false))) ∧ (∀ y, v ≠ .str y) := by
  cases h with
  | str h => exact .inl ⟨_, rfl, h⟩
  | non => exact .inr ⟨_, fun _ => rfl, rfl, fun y => by simp [fEqD, fEq, bas, eqb], fun _ h => by cases h⟩
  | bl b => exact .inr ⟨_, fun _ => rfl, rfl, fun y => by simp [fEqD, fEq, bas, eqb], fun _ h => by cases h⟩
  | int h => exact .inr ⟨_, fun _ => rfl, rfl, fun y => by simp [fEqD, fEq, bas, eqb], fun _ h => by cases h⟩
  | tup => exact .inr ⟨_, fun _ => rfl, rfl, fun y => by simp [fEqD, fEq, bas, eqb], fun _ h => by cases h⟩
  | nil h => exact .inr ⟨.lst [], fun _ => by simp [h], rfl, fun y => by simp [fEqD, fEq, bas, eqb], fun _ h => by cases h⟩
  | one h => exact .inr ⟨.lst [.str "ann"], fun _ => by simp [h], rfl, fun y => by simp [fEqD, fEq, bas, eqb], fun _ h => by cases h⟩
  | dk h => exact .inr ⟨.dk [], fun _ => by simp [h], rfl, fun y => by simp [fEqD, fEq, bas, fDS], fun _ h => by cases h⟩
theorem nt_isb {st : List Ob} {v : D} (h : GV st v) : (∃ b, v = .bl b) ∨ ∃ d, (∀ e, rd (.im v) ⟨e, st⟩ = some d) ∧ fIsi [d, .ty "bool"] = some (.im (.bl false)) ∧ (∀ b, v ≠ .bl b) := by
  cases h with
  | str h => exact .inr ⟨_, fun _ => rfl, rfl, fun _ h => by cases h⟩
  | non => exact .inr ⟨_, fun _ => rfl, rfl, fun _ h => by cases h⟩
  | bl b => exact .inl ⟨_, rfl⟩
  | int h => exact .inr ⟨_, fun _ => rfl, rfl, fun _ h => by cases h⟩
  | tup => exact .inr ⟨_, fun _ => rfl, rfl, fun _ h => by cases h⟩
  | nil h => exact .inr ⟨.lst [], fun _ => by simp [h], rfl, fun _ h => by cases h⟩
  | one h => exact .inr ⟨.lst [.str "ann"], fun _ => by simp [h], rfl, fun _ h => by cases h⟩
  | dk h => exact .inr ⟨.dk [], fun _ => by simp [h], rfl, fun _ h => by cases h⟩
def IsN (v : D) : Prop := ∃ z, v = .str z ∧ NameOk z
def IsT (v : D) : Prop := IsN v ∨ v = .str "public"
def IsR (v : D) : Prop := ∃ z, v = .str z ∧ z ∈ rights
theorem isN_str {z : Str} : IsN (.str z) ↔ NameOk z := ⟨fun ⟨_, h, g⟩ => by cases h; exact g, fun h => ⟨_, rfl, h⟩⟩
theorem isR_str {z : Str} : IsR (.str z) ↔ z ∈ rights := ⟨fun ⟨_, h, g⟩ => by cases h; exact g, fun h => ⟨_, rfl, h⟩⟩
theorem not_letters {c : Nat} : c ∈ (Str.ofString "abcdefghijklmnopqrstuvwxyz").cps.toList ↔ 97 ≤ c ∧ c ≤ 122 := by
  have e : (Str.ofString "abcdefghijklmnopqrstuvwxyz").cps.toList = List.range' 97 26 := by decide +kernel
  rw [e, List.mem_range']
  exact ⟨fun ⟨i, h, e⟩ => by omega, fun h => ⟨c - 97, by omega, by omega⟩⟩
/-- the signs, one by one -/
theorem all_f (f : Nat → Bool) : ∀ l : List Nat, fBls gAll [.lst (l.map fun c => D.bl (f c))] = some (.im (.bl (l.all f))) := fun l => by
  have b : ∀ l : List Nat, blsOf (l.map fun c => D.bl (f c)) = some (l.map f) := fun l => by
    induction l with
    | nil => rfl
    | cons a l ih => simp [blsOf, ih]
  simp [fBls, lstOf, b, gAll]
def let1 (c : Nat) : Bool := decide (97 ≤ c ∧ c ≤ 122)
theorem let1_iff {c : Nat} : let1 c = true ↔ 97 ≤ c ∧ c ≤ 122 := by simp [let1]
def letZ (z : Str) : Bool := let1 (z.cps.toList.headD 0)
theorem letZ_1 (c : Nat) : letZ ⟨#[c]⟩ = let1 c := rfl
def letV : D → Option D
  | .str z => some (.bl (letZ z))
  | _ => none
theorem letV_map (l : List Nat) : List.filterMap (letV ∘ fun c => D.str ⟨#[c]⟩) l = l.map fun c => D.bl (let1 c) := by
  induction l with
  | nil => rfl
  | cons a l ih => simpa [List.filterMap_cons, letV, letZ_1] using ih
theorem is_name_no {v : D} {st : List Ob} (h : GV st v) (hn : ¬ IsN v) (Q : Va → List Ob → Prop) (hq : Q (.im (.bl false)) st) : WpF (f_is_name [v] st) Q X := by
  rcases nt_isi h with ⟨x, rfl, hx, _⟩ | ⟨d, hr, hd, _⟩
  · have hz : x.length ≤ sizeLine := small (by omega)
    have e1 : fLen [.str x] = some (.im (.int x.length)) := by simp [fLen, hz]
    have e4 : fIn (.str x) (.tup [.str (Str.ofString "public"), .str (Str.ofString "caller")]) = some (.im (.bl (decide (x ∈ [Str.ofString "public", Str.ofString "caller"])))) := in_strsT x [Str.ofString "public", Str.ofString "caller"]
    simp only [f_is_name, wpf_fn, ws_seq]
    simp [str_isi, tru, e1, e4, small]
    by_cases l1 : (1 : Int) ≤ x.length
    · by_cases l2 : (x.length : Int) ≤ 8
      · by_cases l3 : x = Str.ofString "public" ∨ x = Str.ofString "caller"
        · simp [l1, l2, l3]; exact hq
        · have h4 : ∃ c, c ∈ x.cps.toList ∧ ¬ (97 ≤ c ∧ c ≤ 122) := by
            refine Classical.byContradiction fun hc => hn ⟨_, rfl, ⟨by omega, by omega⟩, fun e => l3 (.inl e), fun e => l3 (.inr e), fun c hm => ?_⟩
            exact Classical.byContradiction fun q => hc ⟨c, hm, q⟩
          have h5 : x.cps.toList.all let1 = false := by
            rw [List.all_eq_false]
            obtain ⟨c, h6, h7⟩ := h4
            exact ⟨c, h6, fun e => h7 (let1_iff.mp e)⟩
          simp [l1, l2, l3]
          refine wp_comp_pure letV ?_
          simp [itOf, hz]
          refine ⟨fun c hc => ?_, ?_, ?_⟩
          · have e : fIn (.str ⟨#[c]⟩) (.str (Str.ofString "abcdefghijklmnopqrstuvwxyz")) = some (.im (.bl (let1 c))) := by
              rw [in_sign, let1]
              simp only [not_letters]
            simp [gvName, W1, e, wipeS, wipeE, letV, letZ_1]
          · simpa [Str.length] using hz
          · rw [letV_map, all_f, h5]
            simp
            exact hq
      · simp [l1, l2]; exact hq
    · simp [l1]; exact hq
  · simp only [f_is_name, wpf_fn, ws_seq]
    simp [hr, hd, tru]
    exact hq
end K07
end
section
set_option Elab.async false
set_option linter.all false
set_option maxRecDepth 100000
set_option maxHeartbeats 1000000
/-! P07: what is needed of the parts of deeds, over values of all kinds. -/
namespace K07
open PySem PySem.Spec L2 VI

section
variable {X : Xc → List Ob → Prop} {st : List Ob} {v t : D}
theorem is_name_v (h : GV st v) (Q : Va → List Ob → Prop) (h1 : IsN v → Q (.im (.bl true)) st) (h2 : ¬ IsN v → Q (.im (.bl false)) st) : WpF (f_is_name [v] st) Q X := by
  by_cases hn : IsN v
  · have := h1 hn
    obtain ⟨z, rfl, hz⟩ := hn
    exact is_name_ok hz _ this
  · exact is_name_no h hn _ (h2 hn)
theorem need_name_v (h : GV st v) (Q : Va → List Ob → Prop) (h1 : IsN v → Q (.im .non) st) (h2 : ¬ IsN v → X ⟨"InvalidName", [("value", v)]⟩ st) : WpF (f_need_name [v] st) Q X := by
  simp [f_need_name]
  refine is_name_v h _ (fun q => ?_) (fun q => ?_)
  · simp [tru]; exact h1 q
  · simp [tru]; exact h2 q
theorem is_right_v (h : GV st v) (Q : Va → List Ob → Prop) (h1 : IsR v → Q (.im (.bl true)) st) (h2 : ¬ IsR v → Q (.im (.bl false)) st) : WpF (f_is_right [v] st) Q X := by
  rcases nt_isi h with ⟨x, rfl, hx⟩ | ⟨d, hr, hd, _, hne⟩
  · by_cases hn : x ∈ rights
    · exact is_right_ok hn _ (h1 (isR_str.mpr hn))
    · simp [f_is_right, str_isi, tru, rights_tz, in_strsZ, hn]
      exact h2 fun e => hn (isR_str.mp e)
  · simp [f_is_right, hr, hd, tru]
    exact h2 fun ⟨z, e, _⟩ => hne z e
theorem need_right_v (h : GV st v) (Q : Va → List Ob → Prop) (h1 : IsR v → Q (.im .non) st) (h2 : ¬ IsR v → X ⟨"InvalidRight", [("value", v)]⟩ st) : WpF (f_need_right [v] st) Q X := by
  simp [f_need_right]
  refine is_right_v h _ (fun q => ?_) (fun q => ?_)
  · simp [tru]; exact h1 q
  · simp [tru]; exact h2 q
theorem is_taker_v (h : GV st v) (Q : Va → List Ob → Prop) (h1 : IsT v → Q (.im (.bl true)) st) (h2 : ¬ IsT v → Q (.im (.bl false)) st) : WpF (f_is_taker [v] st) Q X := by
  simp [f_is_taker]
  refine is_name_v h _ (fun q => ?_) (fun q => ?_)
  · simp [tru]; exact h1 (.inl q)
  · simp [tru]
    rcases nt_isi h with ⟨x, rfl, hx⟩ | ⟨d, hr, hd, he, hne⟩
    · simp [str_isi, tru, strD_eq]
      by_cases hp : x = Str.ofString "public"
      · subst hp
        simp; exact h1 (.inr rfl)
      · simp [hp]
        exact h2 fun z => z.elim q fun e => hp (by cases e; rfl)
    · simp [hr, hd, tru]
      exact h2 fun z => z.elim q fun e => hne _ e
theorem need_taker_v (h : GV st v) (Q : Va → List Ob → Prop) (h1 : IsT v → Q (.im .non) st) (h2 : ¬ IsT v → X ⟨"InvalidTaker", [("value", v)]⟩ st) : WpF (f_need_taker [v] st) Q X := by
  simp [f_need_taker]
  refine is_taker_v h _ (fun q => ?_) (fun q => ?_)
  · simp [tru]; exact h1 q
  · simp [tru]; exact h2 q
def FlagOk (v t : D) : Prop := ∃ b, v = .bl b ∧ (b = true → t ≠ .str "public")
theorem eqP_v (h : GV st t) : ∃ d b, (∀ e, rd (.im t) ⟨e, st⟩ = some d) ∧ fEqD d (.str (Str.ofString "public")) = some (.im (.bl b)) ∧ (b = true ↔ t = .str "public") := by
  rcases nt_isi h with ⟨x, rfl, hx⟩ | ⟨d, hr, hd, he, hne⟩
  · refine ⟨_, _, fun _ => rfl, strD_eq _ _, ?_⟩
    simp
  · exact ⟨d, false, hr, he _, ⟨fun z => (by cases z), fun z => absurd z (hne _)⟩⟩
theorem need_flag_v (h : GV st v) (ht : GV st t) (Q : Va → List Ob → Prop) (h1 : FlagOk v t → Q (.im .non) st) (h2 : ¬ FlagOk v t → X ⟨"InvalidFlag", [("value", v)]⟩ st) : WpF (f_need_flag [v, t] st) Q X := by
  rcases nt_isb h with ⟨b, rfl⟩ | ⟨d, hr, hd, hne⟩
  · simp [f_need_flag, f_is_flag, bl_isi, tru]
    cases b with
    | false => simp; exact h1 ⟨false, rfl, fun z => by cases z⟩
    | true =>
      obtain ⟨d, b, hr, he, hb⟩ := eqP_v ht
      simp [hr, he]
      cases b with
      | true => simp; exact h2 fun ⟨b, e, f⟩ => by cases e; exact f rfl (hb.mp rfl)
      | false => simp; exact h1 ⟨true, rfl, fun _ e => by have := hb.mpr e; cases this⟩
  · simp [f_need_flag, f_is_flag, hr, hd, tru]
    exact h2 fun ⟨b, e, _⟩ => hne b e
end

/-! ### what is due -/
inductive Bad where
  | name | right | taker | flag | kind
def Bad.cls : Bad → Str
  | .name => "InvalidName" | .right => "InvalidRight" | .taker => "InvalidTaker" | .flag => "InvalidFlag" | .kind => "InvalidKind"
def Bad.txt : Bad → Str
  | .name => "name" | .right => "right" | .taker => "taker" | .flag => "flag" | .kind => "kind"
inductive Rw where
  | give (a b c d : D) | take (a b c d e f : D) | call (a : D) | preset (a b c d : D) | use (a b : D)
def Rw.ps : Rw → List D
  | .give a b c d => [a, b, c, d]
  | .take a b c d e f => [a, b, c, d, e, f]
  | .call a => [a]
  | .preset a b c d => [a, b, c, d]
  | .use a b => [a, b]
def Rw.wd : Rw → Str
  | .give .. => "give" | .take .. => "take" | .call .. => "call" | .preset .. => "preset" | .use .. => "use"
def Rw.ds (w : Rw) : List D := .str w.wd :: w.ps
def IsK (v : D) : Prop := v = .str "table" ∨ v = .str "function"
def KR (k r : D) : Prop := (k = .str "table" ∧ (r = .str "read" ∨ r = .str "write")) ∨ (k = .str "function" ∧ r = .str "call")
def IsF (v : D) : Prop := ∃ b, v = .bl b
open Classical in
noncomputable def due : Rw → Option (Bad × D)
  | .give a b c d => if ¬ IsR a then some (.right, a) else if ¬ IsN b then some (.name, b) else if ¬ (IsT c ∨ c = .str "caller") then some (.taker, c) else if ¬ FlagOk d c then some (.flag, d) else none
  | .take a b c d e f => if ¬ IsR a then some (.right, a) else if ¬ IsN b then some (.name, b) else if ¬ IsT c then some (.taker, c) else if d ≠ .non ∧ ¬ IsN d then some (.name, d) else if ¬ IsF e then some (.flag, e) else if ¬ IsF f then some (.flag, f) else none
  | .call a => if ¬ IsN a then some (.name, a) else none
  | .preset a b c d => if ¬ IsK a then some (.kind, a) else if ¬ KR a b then some (.right, b) else if ¬ IsT c then some (.taker, c) else if ¬ FlagOk d c then some (.flag, d) else none
  | .use a b => if ¬ IsR a then some (.right, a) else if ¬ IsN b then some (.name, b) else none

/-! ### inits -/
@[simp] theorem putV_0 {p : Bool} {o o' : Ob} {e : List Sl} {st : List Ob} : putV (.pl 0) o ⟨.ow p o' :: e, st⟩ = ⟨.ow p o :: e, st⟩ := rfl
@[simp] theorem selfO_ins (c : Str) (fs : List (Str × D)) : selfO c (some (.ow true (.ins c fs))) = some fs := by simp [selfO]
@[simp] theorem sup_0 {nx bk ct : S → Prop} {rt : Va → S → Prop} {ex : Xc → S → Prop} (f : FsIK) (c : Str) (r q : M (List D)) (n : Nat) {fs0 : List (Str × D)} {e : List Sl} {st : List Ob} : WpS (svSup f c r n q ⟨.ow true (.ins c fs0) :: e, st⟩) nx rt bk ct ex = Wp r ⟨.ow true (.ins c fs0) :: e, st⟩ (fun ds s1 => Wp q s1 (fun es s2 => OW (selfO c s2.env[0]?) fun fs => es.length = n ∧ WpI (f c fs ds es s2.st) (fun fs' st => nx ⟨s2.env.set 0 (.ow true (.ins c fs')), st⟩) fun x st => ex x ⟨s2.env.set 0 .un, st⟩) ex) ex := ws_sup f c r q n rfl
@[simp] theorem fPutA_ins (cs : List Str) (f : Str) (d : D) (c : Str) (fs : List (Str × D)) : fPutA cs f d (.ins c fs) = if cs.contains c = true ∧ fs.length < 1000 then some (.ins c (putA f d fs)) else none := rfl
theorem deed_ok {c : Str} {ds : List D} {st : List Ob} (hc : c ∈ (["Give", "Take", "Call", "Preset", "Use"] : List Str)) (hl : ds.length ≤ 1000) (Q : List (Str × D) → List Ob → Prop) (X : Xc → List Ob → Prop) (hq : Q [("own_words", .lst ds)] st) : WpI (e_Deed_star c [] ds [] st) Q X := by
  have h1 : ds.length ≤ sizeLine := small hl
  have h2 : (["Give", "Take", "Call", "Preset", "Use"] : List Str).contains c = true := by simpa using hc
  simp only [e_Deed_star, wpi_istar, f_Deed___init__, wpi_init]
  simp [h1, fList, seqOf, h2, putA]
  have h3 : c = Str.ofString "Give" ∨ c = Str.ofString "Take" ∨ c = Str.ofString "Call" ∨ c = Str.ofString "Preset" ∨ c = Str.ofString "Use" := by simpa using hc
  exact ⟨h3, hq⟩
theorem attr_ok {cs : List Str} {f c : Str} {i : Nat} {fs : List (Str × D)} {e : List Sl} {d : D} {st : List Ob} {nx bk ct : S → Prop} {rt : Va → S → Prop} {ex : Xc → S → Prop} (h1 : e[i]? = some (.im d)) (h2 : cs.contains c = true) (h3 : fs.length < 1000) (hq : nx ⟨.ow true (.ins c (putA f d fs)) :: e, st⟩) :
    WpS (svAttr cs f (evVar (i + 1)) (evVar 0) ⟨.ow true (.ins c fs) :: e, st⟩) nx rt bk ct ex := by
  simp [h1, h2, h3]
  exact ⟨by simpa using h2, hq⟩
theorem sup_deed {c : Str} {r : M (List D)} {ds : List D} {e : List Sl} {st : List Ob} {nx bk ct : S → Prop} {rt : Va → S → Prop} {ex : Xc → S → Prop} (hc : c ∈ (["Give", "Take", "Call", "Preset", "Use"] : List Str)) (hl : ds.length ≤ 1000) (hr : Wp r ⟨.ow true (.ins c []) :: e, st⟩ (fun ds' s' => ds' = ds ∧ s' = ⟨.ow true (.ins c []) :: e, st⟩) fun _ _ => False)
    (hq : nx ⟨.ow true (.ins c [("own_words", .lst ds)]) :: e, st⟩) : WpS (svSup e_Deed_star c r 0 evNil ⟨.ow true (.ins c []) :: e, st⟩) nx rt bk ct ex := by
  rw [sup_0]
  refine Wp.mono hr (fun ds' s' ⟨e1, e2⟩ => ?_) fun _ _ z => z.elim
  subst e1 e2
  rw [wp_nil]
  simp only [List.getElem?_cons_zero, selfO_ins, ow_some, List.length_nil, true_and]
  exact deed_ok hc hl _ _ hq
section
variable {X : Xc → List Ob → Prop} {st : List Ob} {a b c d e f : D}
def Dn (w : Rw) (st : List Ob) (Q : List (Str × D) → List Ob → Prop) (X : Xc → List Ob → Prop) : Prop := (due w = none → ∀ fs, Q fs st) ∧ ∀ k v, due w = some (k, v) → X ⟨k.cls, [("value", v)]⟩ st
theorem call_v (ha : GV st a) (Q : List (Str × D) → List Ob → Prop) (hq : Dn (.call a) st Q X) : WpI (f_Call___init__ "Call" [] [a] st) Q X := by
  simp only [f_Call___init__, wpi_initC, wpi_init]
  simp
  refine need_name_v ha _ (fun h1 => ?_) (fun h1 => hq.2 .name _ (by simp [due, h1]))
  refine deed_ok (by simp) (by simp) _ _ ?_
  simp [putA]
  exact hq.1 (by simp [due, h1]) _
theorem use_v (ha : GV st a) (hb : GV st b) (Q : List (Str × D) → List Ob → Prop) (hq : Dn (.use a b) st Q X) : WpI (f_Use___init__ "Use" [] [a, b] st) Q X := by
  simp only [f_Use___init__, wpi_initC, wpi_init]
  simp
  refine need_right_v ha _ (fun h1 => ?_) (fun h1 => hq.2 .right _ (by simp [due, h1]))
  refine need_name_v hb _ (fun h2 => ?_) (fun h2 => hq.2 .name _ (by simp [due, h1, h2]))
  refine deed_ok (by simp) (by simp) _ _ ?_
  simp [putA]
  exact hq.1 (by simp [due, h1, h2]) _
theorem flagged_v {x : Str} {v t : D} (h : FlagOk v t) (Q : Va → List Ob → Prop) (hq : ∀ zs : List Str, zs.length ≤ 1 → Q (.fr (.lst (zs.map .str))) st) : WpF (f_flagged [.str x, v] st) Q X := by
  obtain ⟨b, rfl, _⟩ := h
  exact flagged_ok _ (hq _ (opt_len b x))
noncomputable def giveT : Sx := (svSeq (svSup e_Deed_star "Give" (evCons (evC (.str ("give" : Str))) (evCons (evVar 1) (evCons (evVar 2) (evCons (evVar 3) (evStar (evVar 6) evNil))))) 0 evNil)
  (svSeq (svAttr ["Give", "Take", "Preset", "Use"] "right" (evVar 1) (evVar 0))
  (svSeq (svAttr ["Give", "Take", "Use"] "thing" (evVar 2) (evVar 0))
  (svSeq (svAttr ["Give", "Take", "Preset"] "taker" (evVar 3) (evVar 0))
  (svAttr ["Give", "Preset"] "option" (evVar 4) (evVar 0))))))
noncomputable def giveR : Sx := (svSeq (svExpr (evCall f_need_flag [] (evCons (evVar 4) (evCons (evVar 3) evNil))))
  (svSeq (svHow .own 6 (evCall f_flagged [] (evCons (evC (.str ("option" : Str))) (evCons (evVar 4) evNil))))
  giveT))
theorem giveT_v {ws : List D} (hw : ws.length ≤ 10) {nx bk ct : S → Prop} {rt : Va → S → Prop} {ex : Xc → S → Prop}
    (hq : ∀ e fs, nx ⟨.ow true (.ins "Give" fs) :: e, st⟩) :
    WpS (giveT ⟨[.ow true (.ins "Give" []), .im a, .im b, .im c, .im d, .im (.fn "Give"), .ow false (.lst ws)], st⟩) nx rt bk ct ex := by
  rw [giveT, ws_seq]
  refine sup_deed (ds := [.str "give", a, b, c] ++ ws) (by simp) (by simp; omega) ?_ ?_
  · simp [seqOf]
  · rw [ws_seq]; refine attr_ok rfl (by simp) (by simp) ?_
    rw [ws_seq]; refine attr_ok rfl (by simp) (by simp [putA]) ?_
    rw [ws_seq]; refine attr_ok rfl (by simp) (by simp [putA]) ?_
    refine attr_ok rfl (by simp) (by simp [putA]) ?_
    exact hq _ _
theorem give_eq : f_Give___init__ = initC 5 7 "Give" ((svSeq (svExpr (evCall f_need_right [] (evCons (evVar 1) evNil)))
  (svSeq (svExpr (evCall f_need_name [] (evCons (evVar 2) evNil)))
  (svSeq (svIf (mOr (mNot (evT (evBl fIsi (evConsV (evVar 3) (evConsV (evC (.ty "str")) evNilV))))) (evB (evOp fNe (evVar 3) (evC (.str ("caller" : Str)))))) (svExpr (evCall f_need_taker [] (evCons (evVar 3) evNil))) svSkip)
  giveR)))) := rfl
theorem giveR_v (hc : GV st c) (hd : GV st d) {nx bk ct : S → Prop} {rt : Va → S → Prop} {ex : Xc → S → Prop} (hq : FlagOk d c → ∀ e fs, nx ⟨.ow true (.ins "Give" fs) :: e, st⟩) (hx : ¬ FlagOk d c → ∀ s : S, s.st = st → ex ⟨"InvalidFlag", [("value", d)]⟩ s) : WpS (giveR ⟨[.ow true (.ins "Give" []), .im a, .im b, .im c, .im d, .im (.fn "Give"), .un], st⟩) nx rt bk ct ex := by
  unfold giveR
  simp only [ws_seq, ws_expr]
  simp
  refine need_flag_v hd hc _ (fun h4 => ?_) (fun h4 => hx h4 _ rfl)
  refine flagged_v h4 _ fun zs hz => ?_
  simp only [ownV_fr, ow_some, List.set_cons_succ, List.set_cons_zero]
  exact giveT_v (by simp; omega) (hq h4)
theorem give_v (ha : GV st a) (hb : GV st b) (hc : GV st c) (hd : GV st d) (Q : List (Str × D) → List Ob → Prop) (hq : Dn (.give a b c d) st Q X) : WpI (f_Give___init__ "Give" [] [a, b, c, d] st) Q X := by
  simp only [give_eq, wpi_initC, wpi_init, ws_seq, ws_expr, ws_if]
  simp
  refine need_right_v ha _ (fun h1 => ?_) (fun h1 => hq.2 .right _ (by simp [due, h1]))
  refine need_name_v hb _ (fun h2 => ?_) (fun h2 => hq.2 .name _ (by simp [due, h1, h2]))
  have fin : (IsT c ∨ c = .str "caller") → WpS (giveR ⟨[.ow true (.ins "Give" []), .im a, .im b, .im c, .im d, .im (.fn "Give"), .un], st⟩) (fun s => OW (selfO "Give" s.env[0]?) fun fs => Q fs s.st) (fun v s => v = .im .non ∧ OW (selfO "Give" s.env[0]?) fun fs => Q fs s.st) (fun _ => False) (fun _ => False) fun x s => X x s.st := fun h3 => by
    refine giveR_v hc hd (fun h4 e fs => ?_) (fun h4 s e => by rw [e]; exact hq.2 .flag _ (by simp [due, h1, h2, h3, h4]))
    simp
    exact hq.1 (by simp [due, h1, h2, h3, h4]) _
  have more : c ≠ .str "caller" → WpF (f_need_taker [c] st) (fun _ st => WpS (giveR ⟨[.ow true (.ins "Give" []), .im a, .im b, .im c, .im d, .im (.fn "Give"), .un], st⟩) (fun s => OW (selfO "Give" s.env[0]?) fun fs => Q fs s.st) (fun v s => v = .im .non ∧ OW (selfO "Give" s.env[0]?) fun fs => Q fs s.st) (fun _ => False) (fun _ => False) fun x s => X x s.st) X := fun hc' => by
    refine need_taker_v hc _ (fun h3 => fin (.inl h3)) (fun h3 => hq.2 .taker _ (by simp [due, h1, h2, h3, hc']))
  rcases nt_isi hc with ⟨x, rfl, hx⟩ | ⟨y, hr, hi, _, hne⟩
  · by_cases hp : x = Str.ofString "caller"
    · subst hp
      simp [str_isi, tru, str_ne]
      exact fin (.inr rfl)
    · simp [str_isi, tru, str_ne, hp]
      exact more fun e => hp (by cases e; rfl)
  · simp [hr, hi, tru]
    exact more (hne _)
noncomputable def preT : Sx := (svSeq (svSup e_Deed_star "Preset" (evCons (evC (.str ("preset" : Str))) (evCons (evVar 1) (evCons (evVar 2) (evCons (evVar 3) (evStar (evVar 6) evNil))))) 0 evNil)
  (svSeq (svAttr ["Preset"] "kind" (evVar 1) (evVar 0))
  (svSeq (svAttr ["Give", "Take", "Preset", "Use"] "right" (evVar 2) (evVar 0))
  (svSeq (svAttr ["Give", "Take", "Preset"] "taker" (evVar 3) (evVar 0))
  (svAttr ["Give", "Preset"] "option" (evVar 4) (evVar 0))))))
noncomputable def preR : Sx := (svSeq (svExpr (evCall f_need_taker [] (evCons (evVar 3) evNil)))
  (svSeq (svExpr (evCall f_need_flag [] (evCons (evVar 4) (evCons (evVar 3) evNil))))
  (svSeq (svHow .own 6 (evCall f_flagged [] (evCons (evC (.str ("option" : Str))) (evCons (evVar 4) evNil))))
  preT)))
theorem preT_v {ws : List D} (hw : ws.length ≤ 10) {nx bk ct : S → Prop} {rt : Va → S → Prop} {ex : Xc → S → Prop}
    (hq : ∀ e fs, nx ⟨.ow true (.ins "Preset" fs) :: e, st⟩) :
    WpS (preT ⟨[.ow true (.ins "Preset" []), .im a, .im b, .im c, .im d, .im (.fn "Preset"), .ow false (.lst ws)], st⟩) nx rt bk ct ex := by
  rw [preT, ws_seq]
  refine sup_deed (ds := [.str "preset", a, b, c] ++ ws) (by simp) (by simp; omega) ?_ ?_
  · simp [seqOf]
  · rw [ws_seq]; refine attr_ok rfl (by simp) (by simp) ?_
    rw [ws_seq]; refine attr_ok rfl (by simp) (by simp [putA]) ?_
    rw [ws_seq]; refine attr_ok rfl (by simp) (by simp [putA]) ?_
    refine attr_ok rfl (by simp) (by simp [putA]) ?_
    exact hq _ _
theorem preset_eq : f_Preset___init__ = initC 5 7 "Preset" ((svSeq (svIf (mOr (mNot (evT (evBl fIsi (evConsV (evVar 1) (evConsV (evC (.ty "str")) evNilV))))) (evB (evOp fNotIn (evVar 1) (evC (.tz (c_MADE_KINDS.map dvD)))))) (svRaise "InvalidKind" "value" [] (evCons (evVar 1) evNil)) svSkip)
  (svSeq (svIf (mOr (mNot (evT (evCall f_is_right [] (evCons (evVar 2) evNil)))) (evB (evOp fNotIn (evVar 2) (evOp (fTabD "RIGHTS_BY_KIND" c_RIGHTS_BY_KIND) (evC (.fn "RIGHTS_BY_KIND")) (evVar 1))))) (svRaise "InvalidRight" "value" [] (evCons (evVar 2) evNil)) svSkip)
  preR))) := rfl
theorem preR_v (hc : GV st c) (hd : GV st d) {nx bk ct : S → Prop} {rt : Va → S → Prop} {ex : Xc → S → Prop} (hq : IsT c → FlagOk d c → ∀ e fs, nx ⟨.ow true (.ins "Preset" fs) :: e, st⟩) (ht : ¬ IsT c → ∀ s : S, s.st = st → ex ⟨"InvalidTaker", [("value", c)]⟩ s) (hx : IsT c → ¬ FlagOk d c → ∀ s : S, s.st = st → ex ⟨"InvalidFlag", [("value", d)]⟩ s) : WpS (preR ⟨[.ow true (.ins "Preset" []), .im a, .im b, .im c, .im d, .im (.fn "Preset"), .un], st⟩) nx rt bk ct ex := by
  unfold preR
  simp only [ws_seq, ws_expr]
  simp
  refine need_taker_v hc _ (fun h3 => ?_) (fun h3 => ht h3 _ rfl)
  refine need_flag_v hd hc _ (fun h4 => ?_) (fun h4 => hx h3 h4 _ rfl)
  refine flagged_v h4 _ fun zs hz => ?_
  simp only [ownV_fr, ow_some, List.set_cons_succ, List.set_cons_zero]
  exact preT_v (by simp; omega) (hq h3 h4)
theorem made_tz : c_MADE_KINDS.map dvD = (["table", "function"] : List Str).map .str := rfl
theorem kind_v {x : Str} : (∃ zs : List Str, x ∈ (["table", "function"] : List Str) ∧ IsK (.str x) ∧ fTabD "RIGHTS_BY_KIND" c_RIGHTS_BY_KIND (.fn "RIGHTS_BY_KIND") (.str x) = some (.im (.tz (zs.map .str))) ∧ ∀ y : Str, (y ∈ zs → y ∈ rights) ∧ (y ∈ zs ↔ KR (.str x) (.str y))) ∨ (x ∉ (["table", "function"] : List Str) ∧ ¬ IsK (.str x)) := by
  by_cases h1 : x = Str.ofString "table"
  · subst h1
    refine .inl ⟨["read", "write"], by simp, .inl rfl, by simp [fTabD, c_RIGHTS_BY_KIND, List.lookup, dvD], fun y => ⟨?_, ?_⟩⟩
    · simp only [List.mem_cons, List.not_mem_nil, or_false]
      rintro (rfl | rfl) <;> simp [rights]
    · simp [KR]
  · by_cases h2 : x = Str.ofString "function"
    · subst h2
      refine .inl ⟨["call"], by simp, .inr rfl, by simp [fTabD, c_RIGHTS_BY_KIND, List.lookup, dvD], fun y => ⟨?_, ?_⟩⟩
      · simp only [List.mem_cons, List.not_mem_nil, or_false]
        rintro rfl; simp [rights]
      · simp [KR]
    · refine .inr ⟨by simp [h1, h2], ?_⟩
      rintro (e | e)
      · exact h1 (by cases e; rfl)
      · exact h2 (by cases e; rfl)
theorem preset_v (ha : GV st a) (hb : GV st b) (hc : GV st c) (hd : GV st d) (Q : List (Str × D) → List Ob → Prop) (hq : Dn (.preset a b c d) st Q X) : WpI (f_Preset___init__ "Preset" [] [a, b, c, d] st) Q X := by
  simp only [preset_eq, wpi_initC, wpi_init, ws_seq, ws_expr, ws_if]
  simp
  rcases nt_isi ha with ⟨x, rfl, hx⟩ | ⟨y, hr, hi, _, hne⟩
  · rcases kind_v (x := x) with ⟨zs, k1, k2, k3, k4⟩ | ⟨k1, k2⟩
    · have k5 : fNotIn (.str x) (.tz (c_MADE_KINDS.map dvD)) = some (.im (.bl false)) := by
        rw [made_tz, notin_strsZ]
        simp only [k1, decide_true, Bool.not_true]
      simp [str_isi, tru, k5, k3]
      refine is_right_v hb _ (fun h1 => ?_) (fun h1 => ?_)
      · obtain ⟨y, rfl, hy⟩ := h1
        by_cases k6 : y ∈ zs
        · simp [k6, notin_strsZ]
          have k7 := (k4 y).2.mp k6
          refine preR_v hc hd (fun h3 h4 e fs => ?_) (fun h3 s e => ?_) (fun h3 h4 s e => ?_)
          · simp
            exact hq.1 (by simp [due, k2, k7, h3, h4]) _
          · rw [e]; exact hq.2 .taker _ (by simp [due, k2, k7, h3])
          · rw [e]; exact hq.2 .flag _ (by simp [due, k2, k7, h3, h4])
        · simp [k6, notin_strsZ]
          have k7 : ¬ KR (.str x) (.str y) := fun z => k6 ((k4 y).2.mpr z)
          exact hq.2 .right _ (by simp [due, k2, k7])
      · have k7 : ¬ KR (.str x) b := fun z => by
          have : ∃ y, b = .str y := by
            rcases z with ⟨_, rfl | rfl⟩ | ⟨_, rfl⟩ <;> exact ⟨_, rfl⟩
          obtain ⟨y, rfl⟩ := this
          exact h1 ⟨y, rfl, (k4 y).1 ((k4 y).2.mpr z)⟩
        simp
        exact hq.2 .right _ (by simp [due, k2, k7])
    · have k5 : fNotIn (.str x) (.tz (c_MADE_KINDS.map dvD)) = some (.im (.bl true)) := by
        rw [made_tz, notin_strsZ]
        simp only [k1, decide_false, Bool.not_false]
      simp [str_isi, tru, k5]
      exact hq.2 .kind _ (by simp [due, k2])
  · simp [hr, hi, tru]
    exact hq.2 .kind _ (by
      have : ¬ IsK a := by rintro (e | e) <;> exact hne _ e
      simp [due, this])
noncomputable def takeT : Sx := (svSeq (svSup e_Deed_star "Take" (evCons (evC (.str ("take" : Str))) (evCons (evVar 1) (evCons (evVar 2) (evCons (evVar 3) (evStar (evVar 8) evNil))))) 0 evNil)
  (svSeq (svAttr ["Give", "Take", "Preset", "Use"] "right" (evVar 1) (evVar 0))
  (svSeq (svAttr ["Give", "Take", "Use"] "thing" (evVar 2) (evVar 0))
  (svSeq (svAttr ["Give", "Take", "Preset"] "taker" (evVar 3) (evVar 0))
  (svSeq (svAttr ["Take"] "giver" (evVar 4) (evVar 0))
  (svSeq (svAttr ["Take"] "only_option" (evVar 5) (evVar 0))
  (svAttr ["Take"] "cascade" (evVar 6) (evVar 0))))))))
noncomputable def takeR : Sx := (svSeq (svExpr (evCall f_need_flag [(.str "")] (evCons (evVar 5) evNil)))
  (svSeq (svExpr (evCall f_need_flag [(.str "")] (evCons (evVar 6) evNil)))
  (svSeq (svHow .own 8 (evIf (evB (evOp fIs (evVar 4) (evC .non))) (evLst evNil) (evLst (evCons (evC (.str ("by" : Str))) (evCons (evVar 4) evNil)))))
  (svSeq (svHow .own 8 (evOp fAdd (evOp fAdd (evVar 8) (evCall f_flagged [] (evCons (evC (.str ("option" : Str))) (evCons (evVar 5) evNil)))) (evCall f_flagged [] (evCons (evC (.str ("cascade" : Str))) (evCons (evVar 6) evNil)))))
  takeT))))
theorem take_eq : f_Take___init__ = initC 7 9 "Take" ((svSeq (svExpr (evCall f_need_right [] (evCons (evVar 1) evNil)))
  (svSeq (svExpr (evCall f_need_name [] (evCons (evVar 2) evNil)))
  (svSeq (svExpr (evCall f_need_taker [] (evCons (evVar 3) evNil)))
  (svSeq (svIf (evB (evOp fIsnt (evVar 4) (evC .non))) (svExpr (evCall f_need_name [] (evCons (evVar 4) evNil))) svSkip)
  takeR))))) := rfl
theorem takeT_v {ws : List D} (hw : ws.length ≤ 10) {nx bk ct : S → Prop} {rt : Va → S → Prop} {ex : Xc → S → Prop}
    (hq : ∀ e fs, nx ⟨.ow true (.ins "Take" fs) :: e, st⟩) :
    WpS (takeT ⟨[.ow true (.ins "Take" []), .im a, .im b, .im c, .im d, .im e, .im f, .im (.fn "Take"), .ow false (.lst ws)], st⟩) nx rt bk ct ex := by
  rw [takeT, ws_seq]
  refine sup_deed (ds := [.str "take", a, b, c] ++ ws) (by simp) (by simp; omega) ?_ ?_
  · simp [seqOf]
  · rw [ws_seq]; refine attr_ok rfl (by simp) (by simp) ?_
    rw [ws_seq]; refine attr_ok rfl (by simp) (by simp [putA]) ?_
    rw [ws_seq]; refine attr_ok rfl (by simp) (by simp [putA]) ?_
    rw [ws_seq]; refine attr_ok rfl (by simp) (by simp [putA]) ?_
    rw [ws_seq]; refine attr_ok rfl (by simp) (by simp [putA]) ?_
    refine attr_ok rfl (by simp) (by simp [putA]) ?_
    exact hq _ _
theorem gv_e : GV st (.str "") := .str ⟨by decide, fun c hc => by rw [ofS_cps] at hc; simp at hc⟩
theorem flag_e : FlagOk v (.str "") ↔ IsF v := ⟨fun ⟨b, e, _⟩ => ⟨b, e⟩, fun ⟨b, e⟩ => ⟨b, e, fun _ z => by simp at z⟩⟩
theorem non_v (hd : GV st d) : (d = .non ∧ ∀ e, rd (.im d) ⟨e, st⟩ = some .non) ∨ ∃ y, d ≠ .non ∧ (∀ e, rd (.im d) ⟨e, st⟩ = some y) ∧ VI.isNon y = false := by
  cases hd with
  | non => exact .inl ⟨rfl, fun _ => rfl⟩
  | str h => exact .inr ⟨_, (by simp), fun _ => rfl, rfl⟩
  | bl b => exact .inr ⟨_, (by simp), fun _ => rfl, rfl⟩
  | int h => exact .inr ⟨_, (by simp), fun _ => rfl, rfl⟩
  | tup => exact .inr ⟨_, (by simp), fun _ => rfl, rfl⟩
  | nil h => exact .inr ⟨.lst [], (by simp), fun _ => by simp [h], rfl⟩
  | one h => exact .inr ⟨.lst [.str "ann"], (by simp), fun _ => by simp [h], rfl⟩
  | dk h => exact .inr ⟨.dk [], (by simp), fun _ => by simp [h], rfl⟩
theorem takeR_v (hd : GV st d) (he : GV st e) (hf : GV st f) {nx bk ct : S → Prop} {rt : Va → S → Prop} {ex : Xc → S → Prop} (hq : IsF e → IsF f → ∀ e fs, nx ⟨.ow true (.ins "Take" fs) :: e, st⟩) (h1 : ¬ IsF e → ∀ s : S, s.st = st → ex ⟨"InvalidFlag", [("value", e)]⟩ s) (h2 : IsF e → ¬ IsF f → ∀ s : S, s.st = st → ex ⟨"InvalidFlag", [("value", f)]⟩ s) :
    WpS (takeR ⟨[.ow true (.ins "Take" []), .im a, .im b, .im c, .im d, .im e, .im f, .im (.fn "Take"), .un], st⟩) nx rt bk ct ex := by
  have hs : sizeLine = 16777216 := sizeLine_eq
  unfold takeR
  simp only [ws_seq, ws_expr]
  simp
  refine need_flag_v he gv_e _ (fun q1 => ?_) (fun q1 => h1 (fun z => q1 (flag_e.mpr z)) _ rfl)
  refine need_flag_v hf gv_e _ (fun q2 => ?_) (fun q2 => h2 (flag_e.mp q1) (fun z => q2 (flag_e.mpr z)) _ rfl)
  rcases non_v hd with ⟨rfl, hr⟩ | ⟨y, hn, hr, hy⟩
  · simp [is_non, VI.isNon]
    refine flagged_v q1 _ fun zs hz => ?_
    simp
    refine ⟨by omega, ?_⟩
    refine flagged_v q2 _ fun ys hy => ?_
    simp
    refine ⟨by omega, ?_⟩
    rw [← List.map_append]
    exact takeT_v (by simp; omega) (hq (flag_e.mp q1) (flag_e.mp q2))
  · simp [hr, is_non, hy, hs]
    refine flagged_v q1 _ fun zs hz => ?_
    simp [hs]
    refine ⟨by omega, ?_⟩
    refine flagged_v q2 _ fun ys hy => ?_
    simp [hs]
    refine ⟨by omega, ?_⟩
    exact takeT_v (by simp; omega) (hq (flag_e.mp q1) (flag_e.mp q2))
theorem take_v (ha : GV st a) (hb : GV st b) (hc : GV st c) (hd : GV st d) (he : GV st e) (hf : GV st f) (Q : List (Str × D) → List Ob → Prop) (hq : Dn (.take a b c d e f) st Q X) : WpI (f_Take___init__ "Take" [] [a, b, c, d, e, f] st) Q X := by
  simp only [take_eq, wpi_initC, wpi_init, ws_seq, ws_expr, ws_if]
  simp
  refine need_right_v ha _ (fun h1 => ?_) (fun h1 => hq.2 .right _ (by simp [due, h1]))
  refine need_name_v hb _ (fun h2 => ?_) (fun h2 => hq.2 .name _ (by simp [due, h1, h2]))
  refine need_taker_v hc _ (fun h3 => ?_) (fun h3 => hq.2 .taker _ (by simp [due, h1, h2, h3]))
  have fin : (d ≠ .non → IsN d) → WpS (takeR ⟨[.ow true (.ins "Take" []), .im a, .im b, .im c, .im d, .im e, .im f, .im (.fn "Take"), .un], st⟩) (fun s => OW (selfO "Take" s.env[0]?) fun fs => Q fs s.st) (fun v s => v = .im .non ∧ OW (selfO "Take" s.env[0]?) fun fs => Q fs s.st) (fun _ => False) (fun _ => False) fun x s => X x s.st := fun h4 => by
    have h4' : ¬ (d ≠ .non ∧ ¬ IsN d) := fun z => z.2 (h4 z.1)
    refine takeR_v hd he hf (fun h5 h6 e fs => ?_) (fun h5 s e => ?_) (fun h5 h6 s e => ?_)
    · simp
      exact hq.1 (by simp only [due, h1, h2, h3, h4', h5, h6, not_true_eq_false, if_false]) _
    · rw [e]; exact hq.2 .flag _ (by simp only [due, h1, h2, h3, h4', h5, not_true_eq_false, not_false_eq_true, if_false, if_true])
    · rw [e]; exact hq.2 .flag _ (by simp only [due, h1, h2, h3, h4', h5, h6, not_true_eq_false, not_false_eq_true, if_false, if_true])
  rcases non_v hd with ⟨rfl, hr⟩ | ⟨y, hn, hr, hy⟩
  · simp [isnt_non, VI.isNon]
    exact fin fun z => absurd rfl z
  · simp [hr, isnt_non, hy]
    exact need_name_v hd _ (fun h4 => fin fun _ => h4) (fun h4 => hq.2 .name _ (by simp [due, h1, h2, h3, h4, hn]))
end
end K07
end
section
set_option Elab.async false
set_option linter.all false
set_option maxRecDepth 100000
set_option maxHeartbeats 1000000
/-! Q07: what the law says is due. -/
namespace K07
open PySem PySem.Spec L2 VI

section
variable {X : Xc → List Ob → Prop} {st : List Ob} {v t : D}
theorem le_1 (c d : Nat) : fLe (.str ⟨#[c]⟩) (.str ⟨#[d]⟩) = some (.im (.bl (decide (c ≤ d)))) := by
  show some (Va.im (.bl (!ltS ⟨#[d]⟩ ⟨#[c]⟩))) = _
  congr 3
  rw [Bool.eq_iff_iff]
  simp [ltS, List.cons_le_cons_iff]
  omega
def no1 : D → Option D
  | .str z => if letZ z = true then none else some (.str z)
  | _ => none
theorem no1_map (l : List Nat) : List.filterMap (no1 ∘ fun c => D.str ⟨#[c]⟩) l = (l.filter fun c => !let1 c).map fun c => .str ⟨#[c]⟩ := by
  induction l with
  | nil => rfl
  | cons a l ih =>
    by_cases h : let1 a = true
    · simp [List.filterMap_cons, no1, letZ_1, h]; exact ih
    · simp [List.filterMap_cons, no1, letZ_1, h]; exact ih
theorem eqD_nil (l : List Nat) : fEqD (.lst (l.map fun c => .str ⟨#[c]⟩)) (.lst []) = some (.im (.bl l.isEmpty)) := by
  have hb : bas 8 (.lst (l.map fun c => D.str ⟨#[c]⟩)) = true := by
    show (l.map fun c => D.str ⟨#[c]⟩).all (bas 7) = true
    simp [bas]
  have e : fEq (.lst (l.map fun c => .str ⟨#[c]⟩)) (.lst []) = some (.im (.bl l.isEmpty)) := by
    unfold fEq
    rw [hb]
    cases l <;> simp [bas, eqb]
  simp [fEqD, e]
theorem lw_name_v (h : GV st v) (Q : Va → List Ob → Prop) (h1 : IsN v → Q (.im (.bl true)) st) (h2 : ¬ IsN v → Q (.im (.bl false)) st) : WpF (f__law_is_name [v] st) Q X := by
  rcases nt_isi h with ⟨x, rfl, hx, _⟩ | ⟨d, hr, hd, _, hne⟩
  · have hz : x.length ≤ sizeLine := small (by omega)
    have e1 : fLen [.str x] = some (.im (.int x.length)) := by simp [fLen, hz]
    have e4 : fIn (.str x) (.lst [.str (Str.ofString "public"), .str (Str.ofString "caller")]) = some (.im (.bl (decide (x ∈ [Str.ofString "public", Str.ofString "caller"])))) := in_strs x [Str.ofString "public", Str.ofString "caller"]
    simp only [f__law_is_name, wpf_fn, ws_seq]
    simp [str_isi, tru, e1, e4, small]
    by_cases l1 : (1 : Int) ≤ x.length
    · by_cases l2 : (x.length : Int) ≤ 8
      · by_cases l3 : x = Str.ofString "public" ∨ x = Str.ofString "caller"
        · simp [l1, l2, l3]
          exact h2 fun ⟨z, e, _, g1, g2, _⟩ => by cases e; exact l3.elim g1 g2
        · simp [l1, l2, l3]
          refine wp_comp_pure no1 ?_
          simp [itOf, hz]
          refine ⟨fun c hc => ?_, ?_, ?_⟩
          · have e1 : fLe (.str (Str.ofString "a")) (.str ⟨#[c]⟩) = some (.im (.bl (decide (97 ≤ c)))) := le_1 97 c
            have e2 : fLe (.str ⟨#[c]⟩) (.str (Str.ofString "z")) = some (.im (.bl (decide (c ≤ 122)))) := le_1 c 122
            by_cases c1 : 97 ≤ c
            · by_cases c2 : c ≤ 122
              · simp [gvName, W1, e1, e2, c1, c2, wipeS, wipeE, no1, letZ_1, let1]
              · simp [gvName, W1, e1, e2, c1, c2, wipeS, wipeE, no1, letZ_1, let1]
            · simp [gvName, W1, e1, e2, c1, wipeS, wipeE, no1, letZ_1, let1]
          · simpa [Str.length] using hz
          · rw [no1_map, eqD_nil]
            simp
            by_cases hl : ∀ c ∈ x.cps.toList, 97 ≤ c ∧ c ≤ 122
            · have e : (List.filter (fun c => !let1 c) x.cps.toList).isEmpty = true := by
                rw [List.isEmpty_iff, List.filter_eq_nil_iff]
                intro c hc
                simp [let1_iff.mpr (hl c hc)]
              rw [e]
              exact h1 ⟨_, rfl, ⟨by omega, by omega⟩, fun z => l3 (.inl z), fun z => l3 (.inr z), hl⟩
            · have e : (List.filter (fun c => !let1 c) x.cps.toList).isEmpty = false := by
                rw [Bool.eq_false_iff]
                intro z
                rw [List.isEmpty_iff, List.filter_eq_nil_iff] at z
                exact hl fun c hc => let1_iff.mp (by simpa using z c hc)
              rw [e]
              exact h2 fun ⟨z, e, _, _, _, g⟩ => by cases e; exact hl g
      · simp [l1, l2]
        exact h2 fun ⟨z, e, g, _⟩ => by cases e; omega
    · simp [l1]
      exact h2 fun ⟨z, e, g, _⟩ => by cases e; omega
  · simp only [f__law_is_name, wpf_fn, ws_seq]
    simp [hr, hd, tru]
    exact h2 fun ⟨z, e, _⟩ => hne z e
theorem lw_right_v (h : GV st v) (Q : Va → List Ob → Prop) (h1 : IsR v → Q (.im (.bl true)) st) (h2 : ¬ IsR v → Q (.im (.bl false)) st) : WpF (f__law_is_right [v] st) Q X := by
  have hs : sizeLine = 16777216 := sizeLine_eq
  rcases nt_isi h with ⟨x, rfl, hx⟩ | ⟨d, hr, hd, _, hne⟩
  · have e : fIn (.str x) (.lst [.str (Str.ofString "inherit"), .str (Str.ofString "act"), .str (Str.ofString "read"), .str (Str.ofString "write"), .str (Str.ofString "call")]) = some (.im (.bl (decide (x ∈ rights)))) := in_strs x rights
    by_cases hn : x ∈ rights
    · simp [f__law_is_right, str_isi, tru, e, hn, hs]
      exact h1 (isR_str.mpr hn)
    · simp [f__law_is_right, str_isi, tru, e, hn, hs]
      exact h2 fun e => hn (isR_str.mp e)
  · simp [f__law_is_right, hr, hd, tru]
    exact h2 fun ⟨z, e, _⟩ => hne z e
theorem lw_taker_v (h : GV st v) (Q : Va → List Ob → Prop) (h1 : IsT v → Q (.im (.bl true)) st) (h2 : ¬ IsT v → Q (.im (.bl false)) st) : WpF (f__law_is_taker [v] st) Q X := by
  simp [f__law_is_taker]
  refine lw_name_v h _ (fun q => ?_) (fun q => ?_)
  · simp [tru]; exact h1 (.inl q)
  · simp [tru]
    obtain ⟨d, b, hr, he, hb⟩ := eqP_v h
    simp [hr, he]
    cases b with
    | true => exact h1 (.inr (hb.mp rfl))
    | false => exact h2 fun z => z.elim q fun e => by have := hb.mpr e; cases this
def dueT : Option (Bad × D) → List D
  | none => [.str "told", .non]
  | some (k, v) => [.str k.txt, v]
theorem lw_flag_v (h : GV st v) (ht : GV st t) (Q : Va → List Ob → Prop) (h1 : FlagOk v t → Q (.fr (.lst (dueT none))) st) (h2 : ¬ FlagOk v t → Q (.fr (.lst (dueT (some (.flag, v))))) st) : WpF (f__law_flag_due [v, t] st) Q X := by
  have hs : sizeLine = 16777216 := sizeLine_eq
  rcases nt_isb h with ⟨b, rfl⟩ | ⟨d, hr, hd, hne⟩
  · simp only [f__law_flag_due, wpf_fn, ws_seq]
    simp [bl_isi, tru]
    cases b with
    | false => simp [hs]; exact h1 ⟨false, rfl, fun z => by cases z⟩
    | true =>
      obtain ⟨d, b, hr, he, hb⟩ := eqP_v ht
      simp [hr, he]
      cases b with
      | true => simp [hs]; exact h2 fun ⟨b, e, f⟩ => by cases e; exact f rfl (hb.mp rfl)
      | false => simp [hs]; exact h1 ⟨true, rfl, fun _ e => by have := hb.mpr e; cases this⟩
  · simp only [f__law_flag_due, wpf_fn, ws_seq]
    simp [hr, hd, tru, hs]
    exact h2 fun ⟨b, e, _⟩ => hne b e
end
section
variable {X : Xc → List Ob → Prop} {st : List Ob} {a b c d e f : D} {m : Nat}
theorem eqs (x y : String) : fEqD (.str (Str.ofString x)) (.str (Str.ofString y)) = some (.im (.bl (decide (x = y)))) := by
  rw [strD_eq]; simp
noncomputable def takeL : Sx := svSeq (svFor (evIt (evSl (evVar 0) (evPart (some (evC (.int 5)))) (evPart none))) (gvName 1)
      (svIf (mNot (evT (evBl fIsi (evConsV (evVar 1) (evConsV (evC (.ty "bool")) evNilV))))) (svRet (evLst (evCons (evC (.str ("flag" : Str))) (evCons (evVar 1) evNil)))) svSkip))
      (svRet (evLst (evCons (evC (.str ("told" : Str))) (evCons (evC .non) evNil))))
theorem tdue_eq : f__law_take_due = fnOf 1 2 (svSeq (svIf (mAnd (evB (evOp fIsnt (evOp fIx (evVar 0) (evC (.int 4))) (evC .non))) (mNot (evT (evCall f__law_is_name [] (evCons (evOp fIx (evVar 0) (evC (.int 4))) evNil))))) (svRet (evLst (evCons (evC (.str ("name" : Str))) (evCons (evOp fIx (evVar 0) (evC (.int 4))) evNil)))) svSkip) takeL) := rfl
theorem takeL_v (hm' : st[m]? = some (.lst [.str "take", a, b, c, d, e, f])) (he : GV st e) (hf : GV st f) {nx bk ct : S → Prop} {rt : Va → S → Prop} {ex : Xc → S → Prop} (h1 : IsF e → IsF f → ∀ s, s.st = st → rt (.fr (.lst (dueT none))) s)
    (h3 : ¬ IsF e → ∀ s, s.st = st → rt (.fr (.lst (dueT (some (.flag, e))))) s) (h4 : IsF e → ¬ IsF f → ∀ s, s.st = st → rt (.fr (.lst (dueT (some (.flag, f))))) s) : WpS (takeL ⟨[.im (.ref m), .un], st⟩) nx rt bk ct ex := by
  have hs : sizeLine = 16777216 := sizeLine_eq
  have e5 : cutD [D.str (Str.ofString "take"), a, b, c, d, e, f] (some 5) none = [e, f] := rfl
  unfold takeL
  simp only [ws_seq, ws_for]
  simp [hm', fSl, e5, itOf, seqOf, ws_for1, gvName]
  rcases nt_isb he with ⟨b1, rfl⟩ | ⟨y, hr, hi, hne⟩
  · simp [bl_isi, tru]
    rcases nt_isb hf with ⟨b2, rfl⟩ | ⟨y, hr, hi, hne⟩
    · simp [bl_isi, tru, hs]
      exact h1 ⟨_, rfl⟩ ⟨_, rfl⟩ _ rfl
    · simp [hr, hi, tru, hs]
      exact h4 ⟨_, rfl⟩ (fun ⟨b, e⟩ => hne b e) _ rfl
  · simp [hr, hi, tru, hs]
    exact h3 (fun ⟨b, e⟩ => hne b e) _ rfl
theorem lw_take_v (hm : st[m]? = some (.lst (Rw.take a b c d e f).ds)) (hd : GV st d) (he : GV st e) (hf : GV st f) (Q : Va → List Ob → Prop) (h1 : ¬ (d ≠ .non ∧ ¬ IsN d) → IsF e → IsF f → Q (.fr (.lst (dueT none))) st) (h2 : d ≠ .non ∧ ¬ IsN d → Q (.fr (.lst (dueT (some (.name, d))))) st)
    (h3 : ¬ (d ≠ .non ∧ ¬ IsN d) → ¬ IsF e → Q (.fr (.lst (dueT (some (.flag, e))))) st) (h4 : ¬ (d ≠ .non ∧ ¬ IsN d) → IsF e → ¬ IsF f → Q (.fr (.lst (dueT (some (.flag, f))))) st) : WpF (f__law_take_due [.ref m] st) Q X := by
  have hs : sizeLine = 16777216 := sizeLine_eq
  have hm' : st[m]? = some (.lst [.str "take", a, b, c, d, e, f]) := hm
  have i4 : atI [D.str (Str.ofString "take"), a, b, c, d, e, f] 4 = some d := rfl
  have fin : ¬ (d ≠ .non ∧ ¬ IsN d) → WpS (takeL ⟨[.im (.ref m), .un], st⟩) (fun s => Q (.im .non) s.st) (fun v s => (∀ i, ¬ v = .pl i) ∧ Q v s.st) (fun _ => False) (fun _ => False) fun x s => X x s.st := fun h5 => by
    refine takeL_v hm' he hf (fun q1 q2 s e => ?_) (fun q1 s e => ?_) (fun q1 q2 s e => ?_)
    · rw [e]; exact ⟨fun i z => (by cases z), h1 h5 q1 q2⟩
    · rw [e]; exact ⟨fun i z => (by cases z), h3 h5 q1⟩
    · rw [e]; exact ⟨fun i z => (by cases z), h4 h5 q1 q2⟩
  rw [tdue_eq]
  simp [hm', i4]
  rcases non_v hd with ⟨rfl, hr⟩ | ⟨y, hn, hr, hy⟩
  · simp [isnt_non, VI.isNon]
    exact fin fun z => absurd rfl z.1
  · simp [hr, isnt_non, hy]
    refine lw_name_v hd _ (fun h5 => ?_) (fun h5 => ?_)
    · simp [tru]
      exact fin fun z => z.2 h5
    · simp [tru, hs, hm', i4]
      exact h2 ⟨hn, h5⟩
def rgts (k : Str) : List D := if k = Str.ofString "table" then [.str "read", .str "write"] else [.str "call"]
noncomputable def preL : Sx := (svSeq (svIf (mNot (evT (evCall f__law_is_taker [] (evCons (evOp fIx (evVar 0) (evC (.int 3))) evNil)))) (svRet (evLst (evCons (evC (.str ("taker" : Str))) (evCons (evOp fIx (evVar 0) (evC (.int 3))) evNil)))) svSkip)
  (svRet (evCall f__law_flag_due [] (evCons (evOp fIx (evVar 0) (evC (.int 4))) (evCons (evOp fIx (evVar 0) (evC (.int 3))) evNil)))))
noncomputable def preM : Sx := (svSeq (svIf (mOr (mNot (evT (evBl fIsi (evConsV (evOp fIx (evVar 0) (evC (.int 2))) (evConsV (evC (.ty "str")) evNilV))))) (evB (evOp fNotIn (evOp fIx (evVar 0) (evC (.int 2))) (evOp fIx (evVar 1) (evOp fIx (evVar 0) (evC (.int 1))))))) (svRet (evLst (evCons (evC (.str ("right" : Str))) (evCons (evOp fIx (evVar 0) (evC (.int 2))) evNil)))) svSkip)
  preL)
theorem pdue_eq : f__law_preset_due = fnOf 1 2 ((svSeq (svHow .own 1 (evDict (evPc (.inr ("table" : Str)) (evLst (evCons (evC (.str ("read" : Str))) (evCons (evC (.str ("write" : Str))) evNil))) (evPc (.inr ("function" : Str)) (evLst (evCons (evC (.str ("call" : Str))) evNil)) evPn))))
  (svSeq (svIf (mOr (mNot (evT (evBl fIsi (evConsV (evOp fIx (evVar 0) (evC (.int 1))) (evConsV (evC (.ty "str")) evNilV))))) (evB (evOp fNotIn (evOp fIx (evVar 0) (evC (.int 1))) (evVar 1)))) (svRet (evLst (evCons (evC (.str ("kind" : Str))) (evCons (evOp fIx (evVar 0) (evC (.int 1))) evNil)))) svSkip)
  preM))) := rfl
def rdic : List (Key × D) := [(.inr "table", .lst [.str "read", .str "write"]), (.inr "function", .lst [.str "call"])]
theorem rdic_in (x : Str) : fNotIn (.str x) (.dk rdic) = some (.im (.bl (!decide (x ∈ (["table", "function"] : List Str))))) := by
  by_cases h1 : x = Str.ofString "table"
  · subst h1; simp [fNotIn, inD, dictAt, D.key, look, rdic]
  · by_cases h2 : x = Str.ofString "function"
    · subst h2; simp [fNotIn, inD, dictAt, D.key, look, rdic]
    · have e1 : ¬ Str.ofString "table" = x := fun e => h1 e.symm
      have e2 : ¬ Str.ofString "function" = x := fun e => h2 e.symm
      simp [fNotIn, inD, dictAt, D.key, look, rdic, h1, h2, e1, e2]
theorem rdic_ix {x : Str} (h : IsK (.str x)) : ∃ zs : List Str, fIx (.dk rdic) (.str x) = some (.im (.lst (zs.map .str))) ∧ ∀ y : Str, y ∈ zs ↔ KR (.str x) (.str y) := by
  rcases h with e | e
  · cases e
    exact ⟨["read", "write"], by simp [fIx, dictAt, D.key, look, rdic], fun y => by simp [KR]⟩
  · cases e
    exact ⟨["call"], by simp [fIx, dictAt, D.key, look, rdic], fun y => by simp [KR]⟩
theorem preL_v (hm' : st[m]? = some (.lst [.str "preset", a, b, c, d])) (hc : GV st c) (hd : GV st d) {o : Ob} {nx bk ct : S → Prop} {rt : Va → S → Prop} (h1 : IsT c → FlagOk d c → ∀ s, s.st = st → rt (.fr (.lst (dueT none))) s)
    (h3 : ¬ IsT c → ∀ s, s.st = st → rt (.fr (.lst (dueT (some (.taker, c))))) s) (h4 : IsT c → ¬ FlagOk d c → ∀ s, s.st = st → rt (.fr (.lst (dueT (some (.flag, d))))) s) : WpS (preL ⟨[.im (.ref m), .ow false o], st⟩) nx rt bk ct fun x s => X x s.st := by
  have hs : sizeLine = 16777216 := sizeLine_eq
  have i3 : atI [D.str (Str.ofString "preset"), a, b, c, d] 3 = some c := rfl
  have i4 : atI [D.str (Str.ofString "preset"), a, b, c, d] 4 = some d := rfl
  unfold preL
  simp only [ws_seq]
  simp [hm', i3]
  refine lw_taker_v hc _ (fun q => ?_) (fun q => ?_)
  · simp [tru, hm', i4, i3]
    refine lw_flag_v hd hc _ (fun q2 => ?_) (fun q2 => ?_)
    · exact h1 q q2 _ rfl
    · exact h4 q q2 _ rfl
  · simp [tru, hm', i3, hs]
    exact h3 q _ rfl
theorem lw_preset_v (hm : st[m]? = some (.lst (Rw.preset a b c d).ds)) (ha : GV st a) (hb : GV st b) (hc : GV st c) (hd : GV st d) (Q : Va → List Ob → Prop) (hq : Q (.fr (.lst (dueT (due (.preset a b c d))))) st) : WpF (f__law_preset_due [.ref m] st) Q X := by
  have hs : sizeLine = 16777216 := sizeLine_eq
  have hm' : st[m]? = some (.lst [.str "preset", a, b, c, d]) := hm
  have i1 : atI [D.str (Str.ofString "preset"), a, b, c, d] 1 = some a := rfl
  have i2 : atI [D.str (Str.ofString "preset"), a, b, c, d] 2 = some b := rfl
  have er : List.foldl (fun acc kv => putE acc kv.1 kv.2) [] [(Sum.inr (Str.ofString "table"), D.lst [.str (Str.ofString "read"), .str (Str.ofString "write")]), (Sum.inr (Str.ofString "function"), D.lst [.str (Str.ofString "call")])] = rdic := by
    simp [putE, rdic]
  rw [pdue_eq]
  simp only [wpf_fn, ws_seq]
  simp only [ws_own, wp_dict, wp_pc, wp_pn, wp_lst, wp_cons, wp_c, wp_nil, wp_esc_im, wp_esc_fr, obd_lst, er, ownV_fr, ow_some]
  refine ⟨rfl, by simp [hs], by simp [hs], by simp, ?_⟩
  simp [hm', i1]
  rcases nt_isi ha with ⟨x, rfl, hx⟩ | ⟨y, hr, hi, _, hne⟩
  · simp [str_isi, tru, rdic_in]
    rcases kind_v (x := x) with ⟨_, k1, k2, _⟩ | ⟨k1, k2⟩
    · have k1' : ¬ (¬ x = Str.ofString "table" ∧ ¬ x = Str.ofString "function") := fun z => by simp [z.1, z.2] at k1
      obtain ⟨zs, z1, z2⟩ := rdic_ix k2
      simp [k1', preM, hm', i1, i2]
      have fin : KR (.str x) b → WpS (preL ⟨[.im (.ref m), .ow false (.dk rdic)], st⟩) (fun s => Q (.im .non) s.st) (fun v s => (∀ i, ¬ v = .pl i) ∧ Q v s.st) (fun _ => False) (fun _ => False) fun x s => X x s.st := fun k3 => by
        refine preL_v hm' hc hd (fun q1 q2 s e => ?_) (fun q1 s e => ?_) (fun q1 q2 s e => ?_)
        · rw [e]; exact ⟨fun i z => (by cases z), by simpa [due, k2, k3, q1, q2] using hq⟩
        · rw [e]; exact ⟨fun i z => (by cases z), by simpa [due, k2, k3, q1] using hq⟩
        · rw [e]; exact ⟨fun i z => (by cases z), by simpa [due, k2, k3, q1, q2] using hq⟩
      rcases nt_isi hb with ⟨y, rfl, hy⟩ | ⟨y, hr, hi, _, hne⟩
      · simp [str_isi, tru, z1, notin_strs]
        by_cases k3 : y ∈ zs
        · simp [k3]
          exact fin ((z2 y).mp k3)
        · simp [k3, hm', i2, hs]
          have k4 : ¬ KR (.str x) (.str y) := fun z => k3 ((z2 y).mpr z)
          simpa [due, k2, k4, dueT, Bad.txt] using hq
      · simp [hr, hi, tru, hm', i2, hs]
        have k4 : ¬ KR (.str x) b := by
          rintro (⟨_, e | e⟩ | ⟨_, e⟩) <;> exact hne _ e
        simpa [due, k2, k4, dueT, Bad.txt] using hq
    · have k1' : ¬ x = Str.ofString "table" ∧ ¬ x = Str.ofString "function" := by simpa using k1
      simp [k1', hm', i1, hs]
      simpa [due, k2, dueT, Bad.txt] using hq
  · simp [hr, hi, tru, hm', i1, hs]
    have k2 : ¬ IsK a := by rintro (e | e) <;> exact hne _ e
    simpa [due, k2, dueT, Bad.txt] using hq
noncomputable def dueR : Sx := (svSeq (svIf (mNot (evT (evCall f__law_is_right [] (evCons (evOp fIx (evVar 0) (evC (.int 1))) evNil)))) (svRet (evLst (evCons (evC (.str ("right" : Str))) (evCons (evOp fIx (evVar 0) (evC (.int 1))) evNil)))) svSkip)
  (svSeq (svIf (mNot (evT (evCall f__law_is_name [] (evCons (evOp fIx (evVar 0) (evC (.int 2))) evNil)))) (svRet (evLst (evCons (evC (.str ("name" : Str))) (evCons (evOp fIx (evVar 0) (evC (.int 2))) evNil)))) svSkip)
  (svSeq (svIf (evB (evOp fEqD (evOp fIx (evVar 0) (evC (.int 0))) (evC (.str ("use" : Str))))) (svRet (evLst (evCons (evC (.str ("told" : Str))) (evCons (evC .non) evNil)))) svSkip)
  (svSeq (svIf (mAnd (mNot (evT (evCall f__law_is_taker [] (evCons (evOp fIx (evVar 0) (evC (.int 3))) evNil)))) (mNot (mAnd (evB (evOp fEqD (evOp fIx (evVar 0) (evC (.int 0))) (evC (.str ("give" : Str))))) (evB (evOp fEqD (evOp fIx (evVar 0) (evC (.int 3))) (evC (.str ("caller" : Str)))))))) (svRet (evLst (evCons (evC (.str ("taker" : Str))) (evCons (evOp fIx (evVar 0) (evC (.int 3))) evNil)))) svSkip)
  (svRet (evIf (evB (evOp fEqD (evOp fIx (evVar 0) (evC (.int 0))) (evC (.str ("take" : Str))))) (evCall f__law_take_due [] (evCons (evVar 0) evNil)) (evCall f__law_flag_due [] (evCons (evOp fIx (evVar 0) (evC (.int 4))) (evCons (evOp fIx (evVar 0) (evC (.int 3))) evNil)))))))))
theorem due_eq : f__law_due = fnOf 1 1 ((svSeq (svIf (evB (evOp fEqD (evOp fIx (evVar 0) (evC (.int 0))) (evC (.str ("call" : Str))))) (svRet (evIf (evT (evCall f__law_is_name [] (evCons (evOp fIx (evVar 0) (evC (.int 1))) evNil))) (evLst (evCons (evC (.str ("told" : Str))) (evCons (evC .non) evNil))) (evLst (evCons (evC (.str ("name" : Str))) (evCons (evOp fIx (evVar 0) (evC (.int 1))) evNil))))) svSkip)
  (svSeq (svIf (evB (evOp fEqD (evOp fIx (evVar 0) (evC (.int 0))) (evC (.str ("preset" : Str))))) (svRet (evCall f__law_preset_due [] (evCons (evVar 0) evNil))) svSkip)
  dueR))) := rfl
theorem eqC_v (h : GV st c) : ∃ d b, (∀ e, rd (.im c) ⟨e, st⟩ = some d) ∧ fEqD d (.str (Str.ofString "caller")) = some (.im (.bl b)) ∧ (b = true ↔ c = .str "caller") := by
  rcases nt_isi h with ⟨x, rfl, hx⟩ | ⟨d, hr, hd, he, hne⟩
  · exact ⟨_, _, fun _ => rfl, strD_eq _ _, by simp⟩
  · exact ⟨d, false, hr, he _, ⟨fun z => (by cases z), fun z => absurd z (hne _)⟩⟩
theorem lw_due_v {w : Rw} (hm : st[m]? = some (.lst w.ds)) (hw : ∀ p ∈ w.ps, GV st p) (Q : Va → List Ob → Prop) (hq : Q (.fr (.lst (dueT (due w)))) st) : WpF (f__law_due [.ref m] st) Q X := by
  have hs : sizeLine = 16777216 := sizeLine_eq
  rw [due_eq]
  cases w with
  | call a =>
    have hm' : st[m]? = some (.lst [.str "call", a]) := hm
    have i0 : atI [D.str (Str.ofString "call"), a] 0 = some (.str "call") := rfl
    have i1 : atI [D.str (Str.ofString "call"), a] 1 = some a := rfl
    have ha : GV st a := hw a (by simp [Rw.ps])
    simp [hm', i0, i1, eqs]
    refine lw_name_v ha _ (fun h1 => ?_) (fun h1 => ?_)
    · simp [tru, hs, hm', i1]
      simpa [due, h1, dueT] using hq
    · simp [tru, hs, hm', i1]
      simpa [due, h1, dueT, Bad.txt] using hq
  | preset a b c d =>
    have hm' : st[m]? = some (.lst [.str "preset", a, b, c, d]) := hm
    have i0 : atI [D.str (Str.ofString "preset"), a, b, c, d] 0 = some (.str "preset") := rfl
    simp [hm', i0, eqs]
    refine lw_preset_v hm (hw a (by simp [Rw.ps])) (hw b (by simp [Rw.ps])) (hw c (by simp [Rw.ps])) (hw d (by simp [Rw.ps])) _ ?_
    simpa using hq
  | use a b =>
    have hm' : st[m]? = some (.lst [.str "use", a, b]) := hm
    have i0 : atI [D.str (Str.ofString "use"), a, b] 0 = some (.str "use") := rfl
    have i1 : atI [D.str (Str.ofString "use"), a, b] 1 = some a := rfl
    have i2 : atI [D.str (Str.ofString "use"), a, b] 2 = some b := rfl
    simp [hm', i0, eqs, dueR, i1]
    refine lw_right_v (hw a (by simp [Rw.ps])) _ (fun h1 => ?_) (fun h1 => ?_)
    · simp [tru, hm', i2]
      refine lw_name_v (hw b (by simp [Rw.ps])) _ (fun h2 => ?_) (fun h2 => ?_)
      · simp [tru, hm', i0, eqs, hs]
        simpa [due, h1, h2, dueT, Bad.txt] using hq
      · simp [tru, hm', i2, hs]
        simpa [due, h1, h2, dueT, Bad.txt] using hq
    · simp [tru, hm', i1, hs]
      simpa [due, h1, dueT, Bad.txt] using hq
  | give a b c d =>
    have hm' : st[m]? = some (.lst [.str "give", a, b, c, d]) := hm
    have i0 : atI [D.str (Str.ofString "give"), a, b, c, d] 0 = some (.str "give") := rfl
    have i1 : atI [D.str (Str.ofString "give"), a, b, c, d] 1 = some a := rfl
    have i2 : atI [D.str (Str.ofString "give"), a, b, c, d] 2 = some b := rfl
    have i3 : atI [D.str (Str.ofString "give"), a, b, c, d] 3 = some c := rfl
    have i4 : atI [D.str (Str.ofString "give"), a, b, c, d] 4 = some d := rfl
    have hc := hw c (by simp [Rw.ps])
    have hd := hw d (by simp [Rw.ps])
    simp [hm', i0, eqs, dueR, i1]
    refine lw_right_v (hw a (by simp [Rw.ps])) _ (fun h1 => ?_) (fun h1 => ?_)
    · simp [tru, hm', i2]
      refine lw_name_v (hw b (by simp [Rw.ps])) _ (fun h2 => ?_) (fun h2 => ?_)
      · simp [tru, hm', i0, eqs, i3]
        refine lw_taker_v hc _ (fun h3 => ?_) (fun h3 => ?_)
        · simp [tru, hm', i0, eqs, i3, i4]
          refine lw_flag_v hd hc _ (fun h4 => ?_) (fun h4 => ?_)
          · simpa [due, h1, h2, h3, h4] using hq
          · simpa [due, h1, h2, h3, h4] using hq
        · obtain ⟨y, b, hr, he, hb⟩ := eqC_v hc
          simp [tru, hm', i0, eqs, i3, i4, hr, he]
          cases b with
          | true =>
            have h5 := hb.mp rfl
            subst h5
            simp [hm', i0, eqs, i3, i4]
            refine lw_flag_v hd hc _ (fun h4 => ?_) (fun h4 => ?_)
            · simpa [due, h1, h2, h4] using hq
            · simpa [due, h1, h2, h4] using hq
          | false =>
            have h5 : ¬ c = .str (Str.ofString "caller") := fun e => by have := hb.mpr e; cases this
            simp [hm', i3, hs]
            simpa [due, h1, h2, h3, h5, dueT, Bad.txt] using hq
      · simp [tru, hm', i2, hs]
        simpa [due, h1, h2, dueT, Bad.txt] using hq
    · simp [tru, hm', i1, hs]
      simpa [due, h1, dueT, Bad.txt] using hq
  | take a b c d e f =>
    have hm' : st[m]? = some (.lst [.str "take", a, b, c, d, e, f]) := hm
    have i0 : atI [D.str (Str.ofString "take"), a, b, c, d, e, f] 0 = some (.str "take") := rfl
    have i1 : atI [D.str (Str.ofString "take"), a, b, c, d, e, f] 1 = some a := rfl
    have i2 : atI [D.str (Str.ofString "take"), a, b, c, d, e, f] 2 = some b := rfl
    have i3 : atI [D.str (Str.ofString "take"), a, b, c, d, e, f] 3 = some c := rfl
    have hc := hw c (by simp [Rw.ps])
    simp [hm', i0, eqs, dueR, i1]
    refine lw_right_v (hw a (by simp [Rw.ps])) _ (fun h1 => ?_) (fun h1 => ?_)
    · simp [tru, hm', i2]
      refine lw_name_v (hw b (by simp [Rw.ps])) _ (fun h2 => ?_) (fun h2 => ?_)
      · simp [tru, hm', i0, eqs, i3]
        refine lw_taker_v hc _ (fun h3 => ?_) (fun h3 => ?_)
        · simp [tru, hm', i0, eqs, i3]
          refine lw_take_v hm (hw d (by simp [Rw.ps])) (hw e (by simp [Rw.ps])) (hw f (by simp [Rw.ps])) _ (fun h4 h5 h6 => ?_) (fun h4 => ?_) (fun h4 h5 => ?_) (fun h4 h5 h6 => ?_)
          · simp
            simpa only [due, h1, h2, h3, h4, h5, h6, not_true_eq_false, if_false] using hq
          · simp
            simpa only [due, h1, h2, h3, h4.1, h4.2, not_true_eq_false, not_false_eq_true, if_false, if_true, and_self, ne_eq] using hq
          · simp
            simpa only [due, h1, h2, h3, h4, h5, not_true_eq_false, not_false_eq_true, if_false, if_true] using hq
          · simp
            simpa only [due, h1, h2, h3, h4, h5, h6, not_true_eq_false, not_false_eq_true, if_false, if_true] using hq
        · simp [tru, hm', i0, eqs, i3, hs]
          simpa [due, h1, h2, h3, dueT, Bad.txt] using hq
      · simp [tru, hm', i2, hs]
        simpa [due, h1, h2, dueT, Bad.txt] using hq
    · simp [tru, hm', i1, hs]
      simpa [due, h1, dueT, Bad.txt] using hq
/-! ### what is found -/
theorem made_v {w : Rw} (hm : st[m]? = some (.lst w.ds)) (hw : ∀ p ∈ w.ps, GV st p) (Q : Va → List Ob → Prop) (hq : due w = none → ∀ c fs, Q (.fr (.ins c fs)) st) (hx : ∀ k v, due w = some (k, v) → X ⟨k.cls, [("value", v)]⟩ st) : WpF (f__law_made [.ref m] st) Q X := by
  have hs : sizeLine = 16777216 := sizeLine_eq
  cases w with
  | call a =>
    have hm' : st[m]? = some (.lst [.str "call", a]) := hm
    have i0 : atI [D.str (Str.ofString "call"), a] 0 = some (.str "call") := rfl
    have i1 : atI [D.str (Str.ofString "call"), a] 1 = some a := rfl
    simp only [f__law_made, wpf_fn, ws_seq]
    simp [hm', i0, i1, eqs, e_Call_1]
    exact call_v (hw a (by simp [Rw.ps])) _ ⟨fun h fs => (by simpa using hq h _ fs), hx⟩
  | preset a b c d =>
    have hm' : st[m]? = some (.lst [.str "preset", a, b, c, d]) := hm
    have i0 : atI [D.str (Str.ofString "preset"), a, b, c, d] 0 = some (.str "preset") := rfl
    have i1 : atI [D.str (Str.ofString "preset"), a, b, c, d] 1 = some a := rfl
    have i2 : atI [D.str (Str.ofString "preset"), a, b, c, d] 2 = some b := rfl
    have i3 : atI [D.str (Str.ofString "preset"), a, b, c, d] 3 = some c := rfl
    have i4 : atI [D.str (Str.ofString "preset"), a, b, c, d] 4 = some d := rfl
    simp only [f__law_made, wpf_fn, ws_seq]
    simp [hm', i0, i1, i2, i3, i4, eqs, e_Preset_3_option, perm]
    exact preset_v (hw a (by simp [Rw.ps])) (hw b (by simp [Rw.ps])) (hw c (by simp [Rw.ps])) (hw d (by simp [Rw.ps])) _ ⟨fun h fs => (by simpa using hq h _ fs), hx⟩
  | use a b =>
    have hm' : st[m]? = some (.lst [.str "use", a, b]) := hm
    have i0 : atI [D.str (Str.ofString "use"), a, b] 0 = some (.str "use") := rfl
    have i1 : atI [D.str (Str.ofString "use"), a, b] 1 = some a := rfl
    have i2 : atI [D.str (Str.ofString "use"), a, b] 2 = some b := rfl
    simp only [f__law_made, wpf_fn, ws_seq]
    simp [hm', i0, i1, i2, eqs, e_Use_2]
    exact use_v (hw a (by simp [Rw.ps])) (hw b (by simp [Rw.ps])) _ ⟨fun h fs => (by simpa using hq h _ fs), hx⟩
  | give a b c d =>
    have hm' : st[m]? = some (.lst [.str "give", a, b, c, d]) := hm
    have i0 : atI [D.str (Str.ofString "give"), a, b, c, d] 0 = some (.str "give") := rfl
    have i1 : atI [D.str (Str.ofString "give"), a, b, c, d] 1 = some a := rfl
    have i2 : atI [D.str (Str.ofString "give"), a, b, c, d] 2 = some b := rfl
    have i3 : atI [D.str (Str.ofString "give"), a, b, c, d] 3 = some c := rfl
    have i4 : atI [D.str (Str.ofString "give"), a, b, c, d] 4 = some d := rfl
    simp only [f__law_made, wpf_fn, ws_seq]
    simp [hm', i0, i1, i2, i3, i4, eqs, e_Give_3_option, perm]
    exact give_v (hw a (by simp [Rw.ps])) (hw b (by simp [Rw.ps])) (hw c (by simp [Rw.ps])) (hw d (by simp [Rw.ps])) _ ⟨fun h fs => (by simpa using hq h _ fs), hx⟩
  | take a b c d e f =>
    have hm' : st[m]? = some (.lst [.str "take", a, b, c, d, e, f]) := hm
    have i0 : atI [D.str (Str.ofString "take"), a, b, c, d, e, f] 0 = some (.str "take") := rfl
    have i1 : atI [D.str (Str.ofString "take"), a, b, c, d, e, f] 1 = some a := rfl
    have i2 : atI [D.str (Str.ofString "take"), a, b, c, d, e, f] 2 = some b := rfl
    have i3 : atI [D.str (Str.ofString "take"), a, b, c, d, e, f] 3 = some c := rfl
    have i4 : atI [D.str (Str.ofString "take"), a, b, c, d, e, f] 4 = some d := rfl
    have i5 : atI [D.str (Str.ofString "take"), a, b, c, d, e, f] 5 = some e := rfl
    have i6 : atI [D.str (Str.ofString "take"), a, b, c, d, e, f] 6 = some f := rfl
    simp only [f__law_made, wpf_fn, ws_seq]
    simp [hm', i0, i1, i2, i3, i4, i5, i6, eqs, e_Take_3_giver_only_option_cascade, perm]
    exact take_v (hw a (by simp [Rw.ps])) (hw b (by simp [Rw.ps])) (hw c (by simp [Rw.ps])) (hw d (by simp [Rw.ps])) (hw e (by simp [Rw.ps])) (hw f (by simp [Rw.ps])) _ ⟨fun h fs => (by simpa using hq h _ fs), hx⟩
theorem found_v {w : Rw} (hm : st[m]? = some (.lst w.ds)) (hw : ∀ p ∈ w.ps, GV st p) (Q : Va → List Ob → Prop) (hq : Q (.fr (.lst (dueT (due w)))) st) : WpF (f__law_found [.ref m] st) Q X := by
  have hs : sizeLine = 16777216 := sizeLine_eq
  simp only [f__law_found, wpf_fn, ws_seq, ws_try]
  simp
  refine made_v hm hw _ (fun h c fs => ?_) (fun k v h => ?_)
  · rw [h] at hq
    simp [hs]
    exact hq
  · rw [h] at hq
    cases k <;> (simp [ws_tryH, Bad.cls, xtab, List.lookup, okS, unS, hs, VI.plain]; exact hq)
end
end K07
end
section
set_option Elab.async false
set_option linter.all false
set_option maxRecDepth 100000
set_option maxHeartbeats 1000000
/-! R07: drawn parts. -/
namespace K07
open PySem PySem.Spec L2 VI

section
variable {X : Xc → List Ob → Prop}
theorem take_eqG : f__law_take = takeG 6247 478 := rfl
theorem take_ok : TakeP f__law_take := by rw [take_eqG]; exact takeG_ok _ _ (by decide) (by decide)
theorem names_eqG : f__law_names = namesG f__law_take := by unfold namesG namesT; rfl
theorem names_ok {b : Nat} {N : Int} {st : List Ob} {ob : Ob} (h : st[b]? = some ob) (hb : BxO N ob) (hN : N < 900000) (Q : Va → List Ob → Prop) (hq : ∀ x0 x1 x2 ob', Nm x0 → Nm x1 → Nm x2 → BxO (N + 9) ob' → Q (.fr (.lst [.str x0, .str x1, .str x2])) (st.set b ob')) : WpF (f__law_names [.ref b, .int 3] st) Q X := by
  rw [names_eqG]
  refine namesG_ok take_ok (m := 3) h hb hN (by decide) Q fun ns ob' hl hn _ hb' => ?_
  obtain ⟨x0, x1, x2, rfl⟩ : ∃ x0 x1 x2, ns = [x0, x1, x2] := by
    match ns, hl with
    | [a, b, c], _ => exact ⟨_, _, _, rfl⟩
  exact hq x0 x1 x2 ob' (hn _ (by simp)) (hn _ (by simp)) (hn _ (by simp)) hb'
theorem box_ok {i : Int} {st : List Ob} (Q : Va → List Ob → Prop) (hq : ∀ ob, BxO 0 ob → Q (.fr ob) st) : WpF (f__law_box [.int i] st) Q X := boxG_ok Q hq
theorem cell_ok {ns : List Int} {k : Int} {st : List Ob} (hk : 0 ≤ k) (hk2 : k < 1000) (Q : Va → List Ob → Prop) (hq : ∀ v, Q (.im (.int v)) st) : WpF (f__law_cell [.lz (ns.map .int), .int k] st) Q X := cellG_ok (p := 6441) (q := 360) (by decide) hk hk2 Q hq
theorem nm_tx {x : Str} (h : Nm x) : Tx x := ⟨by have := h.2; omega, fun c hc => by have := h.1.2.2.2 c hc; omega⟩
theorem nm_gv {x : Str} {st : List Ob} (h : Nm x) : GV st (.str x) := .str (nm_tx h)
theorem lit_tx (s : String) (h1 : s.length ≤ 10 := by decide) (h2 : ∀ c ∈ s.toList, 32 ≤ c.toNat ∧ c.toNat ≤ 122 := by decide) : Tx (Str.ofString s) := by
  refine ⟨by rw [ofS_len]; exact h1, fun c hc => ?_⟩
  rw [ofS_cps] at hc
  obtain ⟨d, hd, rfl⟩ := List.mem_map.mp hc
  exact h2 d hd
theorem GV.app {st st' : List Ob} {v : D} (h : GV st v) (hs : ∀ m : Nat, ∀ o, st[m]? = some o → st'[m]? = some o) : GV st' v := by
  cases h with
  | str h => exact .str h
  | non => exact .non
  | bl b => exact .bl b
  | int h => exact .int h
  | tup => exact .tup
  | nil h => exact .nil (hs _ _ h)
  | one h => exact .one (hs _ _ h)
  | dk h => exact .dk (hs _ _ h)
/-- not the content of an odd cell -/
def Odd0 (o : Ob) : Prop := o ≠ .lst [] ∧ o ≠ .lst [.str "ann"] ∧ o ≠ .dk []
theorem bx_no {N : Int} {ob : Ob} (h : BxO N ob) : Odd0 ob := by
  obtain ⟨a, y, n, rfl, _⟩ := h
  refine ⟨?_, ?_, ?_⟩ <;> simp
theorem GV.put {st : List Ob} {v : D} {m : Nat} {o o' : Ob} (h : GV st v) (hm : st[m]? = some o) (ho : Odd0 o) : GV (st.set m o') v := by
  have key : ∀ (k : Nat) (u : Ob), st[k]? = some u → u ≠ o → (st.set m o')[k]? = some u := fun k u hk hu => by
    have : m ≠ k := fun e => by subst e; rw [hm] at hk; cases hk; exact hu rfl
    rw [List.getElem?_set_ne this]; exact hk
  cases h with
  | str h => exact .str h
  | non => exact .non
  | bl b => exact .bl b
  | int h => exact .int h
  | tup => exact .tup
  | nil h => exact .nil (key _ _ h ho.1.symm)
  | one h => exact .one (key _ _ h ho.2.1.symm)
  | dk h => exact .dk (key _ _ h ho.2.2.symm)
/-- an odd value -/
noncomputable def odds (n : Nat) : List D := [.non, .bl true, .int 0, .int 1, .str "", .str "public", .str "caller", .str "Ann", .str "a b", .str "abcdefghi", .str "reads", .str "role", .ref n, .ref (n + 1), .ref (n + 2), .tup [.str "ann"], .str "read", .str "call", .str "inherit", .str "table", .str "function", .int (10 ^ 29), .bl false, .str "option"]
def oddC : List Ob := [.lst [], .lst [.str "ann"], .dk []]
theorem odds_gv {st : List Ob} {d : D} (h : d ∈ odds st.length) : GV (st ++ oddC) d := by
  have r0 : (st ++ oddC)[st.length]? = some (.lst []) := by simp [oddC]
  have r1 : (st ++ oddC)[st.length + 1]? = some (.lst [.str "ann"]) := by simp [oddC]
  have r2 : (st ++ oddC)[st.length + 2]? = some (.dk []) := by simp [oddC]
  simp only [odds, List.mem_cons, List.not_mem_nil, or_false] at h
  rcases h with rfl | rfl | rfl | rfl | rfl | rfl | rfl | rfl | rfl | rfl | rfl | rfl | rfl | rfl | rfl | rfl | rfl | rfl | rfl | rfl | rfl | rfl | rfl | rfl
  · exact .non
  · exact .bl _
  · exact .int (.inl rfl)
  · exact .int (.inr (.inl rfl))
  · exact .str (lit_tx "")
  · exact .str (lit_tx "public")
  · exact .str (lit_tx "caller")
  · exact .str (lit_tx "Ann")
  · exact .str (lit_tx "a b")
  · exact .str (lit_tx "abcdefghi")
  · exact .str (lit_tx "reads")
  · exact .str (lit_tx "role")
  · exact .nil r0
  · exact .one r1
  · exact .dk r2
  · exact .tup
  · exact .str (lit_tx "read")
  · exact .str (lit_tx "call")
  · exact .str (lit_tx "inherit")
  · exact .str (lit_tx "table")
  · exact .str (lit_tx "function")
  · exact .int (.inr (.inr rfl))
  · exact .bl _
  · exact .str (lit_tx "option")
theorem odd_ok {b : Nat} {N : Int} {st : List Ob} {ob : Ob} (h : st[b]? = some ob) (hb : BxO N ob) (hN : N < 900000) (Q : Va → List Ob → Prop) (hq : ∀ d ob', GV ((st ++ oddC).set b ob') d → BxO (N + 1) ob' → Q (.im d) ((st ++ oddC).set b ob')) : WpF (f__law_odd [.ref b] st) Q X := by
  have hs : sizeLine = 16777216 := sizeLine_eq
  have hbl : b < st.length := (List.getElem?_eq_some_iff.mp h).1
  have h' : (st ++ oddC)[b]? = some ob := by rw [List.getElem?_append_left hbl]; exact h
  simp only [f__law_odd, wpf_fn, ws_seq]
  simp [hs]
  have e : (st ++ [Ob.lst []] ++ [Ob.lst [.str (Str.ofString "ann")]] ++ [Ob.dk []]) = st ++ oddC := by simp [oddC]
  refine take_ok (m := 24) (ob := ob) (by simpa [oddC] using h') hb (by omega) (by decide) (by decide) _ fun r ob' h1 h2 hb' => ?_
  have hlen : (odds st.length).length = 24 := rfl
  obtain ⟨d, hd⟩ : ∃ d, atI (odds st.length) r = some d := ⟨_, atI_of h1 (by rw [hlen]; exact h2)⟩
  have hm : d ∈ odds st.length := by
    rw [atI_of h1 (by rw [hlen]; exact h2)] at hd
    cases hd
    exact List.getElem_mem _
  have hd' : atI [D.non, D.bl true, D.int 0, D.int 1, D.str (Str.ofString ""), D.str (Str.ofString "public"), D.str (Str.ofString "caller"), D.str (Str.ofString "Ann"), D.str (Str.ofString "a b"), D.str (Str.ofString "abcdefghi"), D.str (Str.ofString "reads"), D.str (Str.ofString "role"), D.ref st.length, D.ref (st.length + 1), D.ref (st.length + 1 + 1), D.tup [D.str (Str.ofString "ann")],
        D.str (Str.ofString "read"), D.str (Str.ofString "call"), D.str (Str.ofString "inherit"), D.str (Str.ofString "table"), D.str (Str.ofString "function"), D.int 100000000000000000000000000000, D.bl false, D.str (Str.ofString "option")] r = some d := hd
  simp [hd']
  have g := odds_gv hm
  refine hq d ob' ?_ hb'
  exact g.put h' (bx_no hb)
/-! ### rows -/
theorem row_no (w : Rw) : Odd0 (.lst w.ds) := by
  refine ⟨?_, ?_, ?_⟩ <;> cases w <;> simp [Rw.ds, Rw.ps]
theorem row_set (w : Rw) (j : Nat) (d : D) (h1 : 1 ≤ j) (h2 : j < w.ds.length) : ∃ w' : Rw, w.ds.set j d = w'.ds ∧ ∀ p ∈ w'.ps, p ∈ w.ps ∨ p = d := by
  cases w with
  | give a b c e =>
    have h2 : j < 5 := h2
    have : j = 1 ∨ j = 2 ∨ j = 3 ∨ j = 4 := by omega
    rcases this with rfl | rfl | rfl | rfl
    · exact ⟨.give d b c e, rfl, fun p hp => by simp [Rw.ps] at hp ⊢; grind⟩
    · exact ⟨.give a d c e, rfl, fun p hp => by simp [Rw.ps] at hp ⊢; grind⟩
    · exact ⟨.give a b d e, rfl, fun p hp => by simp [Rw.ps] at hp ⊢; grind⟩
    · exact ⟨.give a b c d, rfl, fun p hp => by simp [Rw.ps] at hp ⊢; grind⟩
  | take a b c e f g =>
    have h2 : j < 7 := h2
    have : j = 1 ∨ j = 2 ∨ j = 3 ∨ j = 4 ∨ j = 5 ∨ j = 6 := by omega
    rcases this with rfl | rfl | rfl | rfl | rfl | rfl
    · exact ⟨.take d b c e f g, rfl, fun p hp => by simp [Rw.ps] at hp ⊢; grind⟩
    · exact ⟨.take a d c e f g, rfl, fun p hp => by simp [Rw.ps] at hp ⊢; grind⟩
    · exact ⟨.take a b d e f g, rfl, fun p hp => by simp [Rw.ps] at hp ⊢; grind⟩
    · exact ⟨.take a b c d f g, rfl, fun p hp => by simp [Rw.ps] at hp ⊢; grind⟩
    · exact ⟨.take a b c e d g, rfl, fun p hp => by simp [Rw.ps] at hp ⊢; grind⟩
    · exact ⟨.take a b c e f d, rfl, fun p hp => by simp [Rw.ps] at hp ⊢; grind⟩
  | call a =>
    have h2 : j < 2 := h2
    have : j = 1 := by omega
    subst this
    exact ⟨.call d, rfl, fun p hp => by simp [Rw.ps] at hp ⊢; grind⟩
  | preset a b c e =>
    have h2 : j < 5 := h2
    have : j = 1 ∨ j = 2 ∨ j = 3 ∨ j = 4 := by omega
    rcases this with rfl | rfl | rfl | rfl
    · exact ⟨.preset d b c e, rfl, fun p hp => by simp [Rw.ps] at hp ⊢; grind⟩
    · exact ⟨.preset a d c e, rfl, fun p hp => by simp [Rw.ps] at hp ⊢; grind⟩
    · exact ⟨.preset a b d e, rfl, fun p hp => by simp [Rw.ps] at hp ⊢; grind⟩
    · exact ⟨.preset a b c d, rfl, fun p hp => by simp [Rw.ps] at hp ⊢; grind⟩
  | use a b =>
    have h2 : j < 3 := h2
    have : j = 1 ∨ j = 2 := by omega
    rcases this with rfl | rfl
    · exact ⟨.use d b, rfl, fun p hp => by simp [Rw.ps] at hp ⊢; grind⟩
    · exact ⟨.use a d, rfl, fun p hp => by simp [Rw.ps] at hp ⊢; grind⟩
theorem right_at {i : Int} (h1 : 0 ≤ i) (h2 : i < 5) : ∃ x : Str, x ∈ rights ∧ atI [D.str (Str.ofString "inherit"), D.str (Str.ofString "act"), D.str (Str.ofString "read"), D.str (Str.ofString "write"), D.str (Str.ofString "call")] i = some (.str x) := by
  have e : i = 0 ∨ i = 1 ∨ i = 2 ∨ i = 3 ∨ i = 4 := by omega
  rcases e with rfl | rfl | rfl | rfl | rfl <;> exact ⟨_, by simp [rights], rfl⟩
noncomputable def partsL : Sx := (svSeq (svFor (evRng1 (evCons (evOp fAdd (evC (.int 1)) (evCall f__law_take [] (evCons (evVar 0) (evCons (evC (.int 2)) evNil)))) evNil)) (gvName 8)
  (svStore (evCall f__law_odd [] (evCons (evVar 0) evNil)) (evVar 7) (evOp fAdd (evC (.int 1)) (evCall f__law_take [] (evCons (evVar 0) (evCons (evOp fSub (evBl fLen (evConsV (evVar 7) evNilV)) (evC (.int 1))) evNil))))))
  (svRet (evVar 7)))
theorem parts_eq : f__law_parts = fnOf 1 9 ((svSeq (svHow .own 1 (evCall f__law_names [] (evCons (evVar 0) (evCons (evC (.int 3)) evNil))))
  (svSeq (svHow .own 2 (evCall f__law_take [] (evCons (evVar 0) (evCons (evC (.int 5)) evNil))))
  (svSeq (svHow .own 3 (evLst (evCons (evOp fEqD (evCall f__law_take [] (evCons (evVar 0) (evCons (evC (.int 2)) evNil))) (evC (.int 0))) (evCons (evOp fEqD (evCall f__law_take [] (evCons (evVar 0) (evCons (evC (.int 2)) evNil))) (evC (.int 0))) evNil))))
  (svSeq (svHow .own 4 (evOp fIx (evLst (evCons (evC (.str ("inherit" : Str))) (evCons (evC (.str ("act" : Str))) (evCons (evC (.str ("read" : Str))) (evCons (evC (.str ("write" : Str))) (evCons (evC (.str ("call" : Str))) evNil)))))) (evCall f__law_take [] (evCons (evVar 0) (evCons (evC (.int 5)) evNil)))))
  (svSeq (svHow .own 5 (evLst (evCons (evCell (evLst (evCons (evC (.str ("give" : Str))) (evCons (evVar 4) (evCons (evOp fIx (evVar 1) (evC (.int 0))) (evCons (evOp fIx (evVar 1) (evC (.int 1))) (evCons (evOp fIx (evVar 3) (evC (.int 0))) evNil))))))) (evCons (evCell (evOp fAdd (evLst (evCons (evC (.str ("take" : Str))) (evCons (evVar 4) (evCons (evOp fIx (evVar 1) (evC (.int 0))) (evCons (evOp fIx (evVar 1) (evC (.int 1))) (evCons (evOp fIx (evVar 1) (evC (.int 2))) evNil)))))) (evVar 3))) evNil))))
  (svSeq (svHow .own 6 (evOp fIx (evLst (evCons (evCell (evLst (evCons (evC (.str ("table" : Str))) (evCons (evC (.str ("read" : Str))) evNil)))) (evCons (evCell (evLst (evCons (evC (.str ("table" : Str))) (evCons (evC (.str ("write" : Str))) evNil)))) (evCons (evCell (evLst (evCons (evC (.str ("function" : Str))) (evCons (evC (.str ("call" : Str))) evNil)))) evNil)))) (evCall f__law_take [] (evCons (evVar 0) (evCons (evC (.int 3)) evNil)))))
  (svSeq (svHow .own 5 (evOp fAdd (evVar 5) (evLst (evCons (evCell (evLst (evCons (evC (.str ("call" : Str))) (evCons (evOp fIx (evVar 1) (evC (.int 0))) evNil)))) (evCons (evCell (evOp fAdd (evOp fAdd (evLst (evCons (evC (.str ("preset" : Str))) evNil)) (evVar 6)) (evLst (evCons (evOp fIx (evVar 1) (evC (.int 1))) (evCons (evOp fIx (evVar 3) (evC (.int 0))) evNil))))) evNil)))))
  (svSeq (svHow .own 7 (evOp fIx (evOp fAdd (evVar 5) (evLst (evCons (evCell (evLst (evCons (evC (.str ("use" : Str))) (evCons (evVar 4) (evCons (evOp fIx (evVar 1) (evC (.int 0))) evNil))))) evNil))) (evVar 2)))
  partsL))))))))) := rfl
theorem partsL_ok {b m : Nat} {N : Int} {st : List Ob} {ob : Ob} {w : Rw} {x1 x2 x3 x4 x5 x6 : Sl} (h : st[b]? = some ob) (hb : BxO N ob) (hN : N < 800000) (hm : st[m]? = some (.lst w.ds)) (hbm : b ≠ m) (hw : ∀ p ∈ w.ps, GV st p) {nx bk ct : S → Prop} {rt : Va → S → Prop} {ex : Xc → S → Prop}
    (hq : ∀ (w' : Rw) (s : S) ob', s.st[b]? = some ob' → BxO (N + 5) ob' → s.st[m]? = some (.lst w'.ds) → (∀ p ∈ w'.ps, GV s.st p) → rt (.im (.ref m)) s) : WpS (partsL ⟨[.im (.ref b), x1, x2, x3, x4, x5, x6, .im (.ref m), .un], st⟩) nx rt bk ct ex := by
  unfold partsL
  simp only [ws_seq, ws_for]
  simp
  refine take_ok (m := 2) h hb (by omega) (by decide) (by decide) _ fun r ob1 h1 h2 hb1 => ?_
  obtain ⟨n, hn, hrn⟩ : ∃ n : Nat, n ≤ 2 ∧ rng1 [.int (1 + r)] = some (rngD 0 n) := by
    rcases two h1 h2 with rfl | rfl
    · exact ⟨1, by decide, rfl⟩
    · exact ⟨2, by decide, rfl⟩
  simp [hrn]
  have hbl : b < st.length := (List.getElem?_eq_some_iff.mp h).1
  refine for_inv _ (fun i s => ∃ (w' : Rw) (x8 : Sl) (st' : List Ob) (ob' : Ob), s = ⟨[.im (.ref b), x1, x2, x3, x4, x5, x6, .im (.ref m), x8], st'⟩ ∧ st'[b]? = some ob' ∧ BxO (N + 1 + 2 * (i : Nat)) ob' ∧ st'[m]? = some (.lst w'.ds) ∧ ∀ p ∈ w'.ps, GV st' p) ⟨w, _, _, ob1, rfl, by simp [hbl], hb1.mono (by omega), by rw [List.getElem?_set_ne hbm]; exact hm, fun p hp => (hw p hp).put h (bx_no hb)⟩ (fun i d s hd hI => ?_) (fun s hI => ?_)
  · obtain ⟨w', x8, st', ob', rfl, g1, g2, g3, g4⟩ := hI
    have hi := (rng_get hd).2
    simp [gvName]
    refine odd_ok g1 g2 (by omega) _ fun d2 ob2 g5 g6 => ?_
    have hml : m < st'.length := (List.getElem?_eq_some_iff.mp g3).1
    have hbl' : b < st'.length := (List.getElem?_eq_some_iff.mp g1).1
    have e1 : ((st' ++ oddC).set b ob2)[m]? = some (.lst w'.ds) := by
      rw [List.getElem?_set_ne hbm, List.getElem?_append_left hml]; exact g3
    have e2 : ((st' ++ oddC).set b ob2)[b]? = some ob2 := by rw [List.getElem?_set_self]; rw [List.length_append]; omega
    have e0 : (st' ++ oddC)[b]? = some ob' := by rw [List.getElem?_append_left hbl']; exact g1
    have g4' : ∀ p ∈ w'.ps, GV ((st' ++ oddC).set b ob2) p := fun p hp => ((g4 p hp).app fun k o hk => by
      rw [List.getElem?_append_left (List.getElem?_eq_some_iff.mp hk).1]; exact hk).put e0 (bx_no g2)
    generalize (st' ++ oddC).set b ob2 = st2 at e1 e2 g4' g5
    have hlen : 2 ≤ w'.ds.length ∧ w'.ds.length ≤ 7 := by cases w' <;> simp [Rw.ds, Rw.ps]
    have hs : sizeLine = 16777216 := sizeLine_eq
    have e3 : fLen [.lst w'.ds] = some (.im (.int w'.ds.length)) := by simp [fLen]
    simp [e1, e3]
    refine take_ok (m := (w'.ds.length : Int) - 1) e2 g6 (by omega) (by omega) (by omega) _ fun r3 ob3 h5 h6 hb3 => ?_
    have e4 : (st2.set b ob3)[m]? = some (.lst w'.ds) := by rw [List.getElem?_set_ne hbm]; exact e1
    have e5 : ixN w'.ds.length (1 + r3) = some (1 + r3).toNat := by unfold ixN; rw [if_pos (by omega), if_pos (by omega)]
    simp [e4, e5]
    obtain ⟨w2, q1, q2⟩ := row_set w' (1 + r3).toNat d2 (by omega) (by omega)
    rw [q1]
    have hml2 : m < st2.length := (List.getElem?_eq_some_iff.mp e1).1
    have hbl2 : b < st2.length := (List.getElem?_eq_some_iff.mp e2).1
    refine ⟨w2, _, _, ⟨rfl, rfl⟩, ob3, ?_, ?_, ?_, fun p hp => ?_⟩
    · rw [List.getElem?_set_ne (Ne.symm hbm), List.getElem?_set_self hbl2]
    · have e : N + 1 + 2 * ((i : Int) + 1) = N + 1 + 2 * (i : Nat) + 1 + 1 := by omega
      rw [e]; exact hb3
    · rw [List.getElem?_set_self (by rw [List.length_set]; exact hml2)]
    · have gp : GV st2 p := by
        rcases q2 p hp with q | q
        · exact g4' p q
        · rw [q]; exact g5
      exact (gp.put e2 (bx_no g6)).put e4 (row_no w')
  · obtain ⟨w', x8, st', ob', rfl, g1, g2, g3, g4⟩ := hI
    simp [retV]
    have e : (rngD 0 n).length = n := by simp [rngD]
    rw [e] at g2
    exact hq w' _ ob' g1 (g2.mono (by omega)) g3 g4
end
end K07
end
section
set_option Elab.async false
set_option linter.all false
set_option maxRecDepth 100000
set_option maxHeartbeats 1000000
/-! S07: a drawn row; the law of k07. -/
namespace K07
open PySem PySem.Spec L2 VI

section
variable {X : Xc → List Ob → Prop}
theorem eqI (i j : Int) : fEqD (.int i) (.int j) = some (.im (.bl (decide (i = j)))) := intD_eq i j
theorem right_tx {x : Str} (h : x ∈ rights) : Tx x := by
  simp only [rights, List.mem_cons, List.not_mem_nil, or_false] at h
  rcases h with rfl | rfl | rfl | rfl | rfl <;> exact lit_tx _
theorem parts_ok {b : Nat} {N : Int} {st : List Ob} {ob : Ob} (h : st[b]? = some ob) (hb : BxO N ob) (hN : N < 700000) (Q : Va → List Ob → Prop) (hq : ∀ (w : Rw) (m : Nat) st' ob', st'[b]? = some ob' → BxO (N + 20) ob' → st'[m]? = some (.lst w.ds) → (∀ p ∈ w.ps, GV st' p) → m ≠ b → Q (.im (.ref m)) st') : WpF (f__law_parts [.ref b] st) Q X := by
  have hs : sizeLine = 16777216 := sizeLine_eq
  have P := @partsL_ok
  rw [parts_eq]
  generalize partsL = T at P ⊢
  have hbl : b < st.length := (List.getElem?_eq_some_iff.mp h).1
  simp only [wpf_fn, ws_seq]
  simp
  refine names_ok h hb (by omega) _ fun n0 n1 n2 ob1 hn0 hn1 hn2 hb1 => ?_
  simp
  refine take_ok (m := 5) (ob := ob1) (by simp [hbl]) hb1 (by omega) (by decide) (by decide) _ fun wy ob2 hw1 hw2 hb2 => ?_
  simp
  refine take_ok (m := 2) (ob := ob2) (by simp [hbl]) hb2 (by omega) (by decide) (by decide) _ fun r2 ob3 _ _ hb3 => ?_
  simp [eqI]
  refine take_ok (m := 2) (ob := ob3) (by simp [hbl]) hb3 (by omega) (by decide) (by decide) _ fun r3 ob4 _ _ hb4 => ?_
  simp [eqI, hs]
  refine take_ok (m := 5) (ob := ob4) (by simp [hbl]) hb4 (by omega) (by decide) (by decide) _ fun r4 ob5 hr1 hr2 hb5 => ?_
  obtain ⟨rt, hrt, e4⟩ := right_at hr1 hr2
  simp [e4, hs]
  refine take_ok (m := 3) (ob := ob5) ?_ hb5 (by omega) (by decide) (by decide) _ fun r6 ob6 hr3 hr4 hb6 => ?_
  · rw [List.getElem?_append_left (by simpa using hbl)]
    simp [hbl]
  simp
  have e5 : ∀ C : List Ob, (st.set b ob5 ++ C).set b ob6 = st.set b ob6 ++ C := fun C => by
    rw [List.set_append_left _ _ (by simpa using hbl), List.set_set]
  simp only [e5]
  have hl6 : st.length = (st.set b ob6).length := by simp
  have h6 : (st.set b ob6)[b]? = some ob6 := by simp [hbl]
  rw [hl6] at hbl ⊢
  generalize st.set b ob6 = st6 at *
  have gx : ∀ (l : List Ob) (k : Nat), (st6 ++ l)[st6.length + k]? = l[k]? := fun l k => by rw [List.getElem?_append_right (by omega), show st6.length + k - st6.length = k by omega]
  have gx0 : ∀ (l : List Ob), (st6 ++ l)[st6.length]? = l[0]? := fun l => by rw [List.getElem?_append_right (Nat.le_refl _), Nat.sub_self]
  have gb : ∀ (l : List Ob), (st6 ++ l)[b]? = some ob6 := fun l => by rw [List.getElem?_append_left hbl]; exact h6
  have tr := right_tx hrt
  have fin : ∀ (w : Rw) (k : Nat) (l : List Ob) (x1 x2 x3 x4 x5 x6 : Sl), l[k]? = some (.lst w.ds) → (∀ p ∈ w.ps, GV (st6 ++ l) p) → WpS (T ⟨[.im (.ref b), x1, x2, x3, x4, x5, x6, .im (.ref (st6.length + k)), .un], st6 ++ l⟩) (fun s => Q (.im .non) s.st) (fun v s => (∀ i, ¬ v = .pl i) ∧ Q v s.st) (fun _ => False) (fun _ => False) fun x s => X x s.st := fun w k l x1 x2 x3 x4 x5 x6 hk hp => by
    refine P (gb l) hb6 (by omega) (by rw [gx]; exact hk) (by omega) hp fun w' s ob' q1 q2 q3 q4 => ⟨fun i e => (by cases e), ?_⟩
    exact hq w' _ s.st ob' q1 (q2.mono (by omega)) q3 q4 (by omega)
  have f1 : GV st6 (.bl (decide (r2 = 0))) := .bl _
  have hj : ∃ (j : Nat) (kw rw' : Str), atI [D.ref (st6.length + 2), D.ref (st6.length + 2 + 1), D.ref (st6.length + 2 + 1 + 1)] r6 = some (.ref (st6.length + (2 + j))) ∧ Tx kw ∧ Tx rw' ∧ ∀ (a1 a2 : Ob) (l : List Ob), (st6 ++ (a1 :: a2 :: [Ob.lst [D.str (Str.ofString "table"), D.str (Str.ofString "read")], Ob.lst [D.str (Str.ofString "table"), D.str (Str.ofString "write")], Ob.lst [D.str (Str.ofString "function"), D.str (Str.ofString "call")]]) ++ l)[st6.length + (2 + j)]? = some (.lst [.str kw, .str rw']) := by
    have e : r6 = 0 ∨ r6 = 1 ∨ r6 = 2 := by omega
    rcases e with rfl | rfl | rfl
    · exact ⟨0, "table", "read", by simp, lit_tx _, lit_tx _, fun a1 a2 l => by rw [List.append_assoc, gx]; rfl⟩
    · exact ⟨1, "table", "write", by simp, lit_tx _, lit_tx _, fun a1 a2 l => by rw [List.append_assoc, gx]; rfl⟩
    · exact ⟨2, "function", "call", by simp, lit_tx _, lit_tx _, fun a1 a2 l => by rw [List.append_assoc, gx]; rfl⟩
  obtain ⟨j, kw, rw', ej, tk, tw, hcell⟩ := hj
  simp only [ej, ow_some, rd_ref, hcell, Option.map_some, obd_lst]
  simp [hs]
  trace_state
  have e : wy = 0 ∨ wy = 1 ∨ wy = 2 ∨ wy = 3 ∨ wy = 4 := by omega
  rcases e with rfl | rfl | rfl | rfl | rfl
  · simp
    exact fin (.give (.str rt) (.str n0) (.str n1) (.bl _)) 0 _ _ _ _ _ _ _ rfl fun p hp => by
      simp only [Rw.ps, List.mem_cons, List.not_mem_nil, or_false] at hp
      rcases hp with rfl | rfl | rfl | rfl
      · exact .str tr
      · exact nm_gv hn0
      · exact nm_gv hn1
      · exact .bl _
  · simp
    exact fin (.take (.str rt) (.str n0) (.str n1) (.str n2) (.bl _) (.bl _)) 1 _ _ _ _ _ _ _ rfl fun p hp => by
      simp only [Rw.ps, List.mem_cons, List.not_mem_nil, or_false] at hp
      rcases hp with rfl | rfl | rfl | rfl | rfl | rfl
      · exact .str tr
      · exact nm_gv hn0
      · exact nm_gv hn1
      · exact nm_gv hn2
      · exact .bl _
      · exact .bl _
  · simp
    exact fin (.call (.str n0)) 5 _ _ _ _ _ _ _ rfl fun p hp => by
      simp only [Rw.ps, List.mem_cons, List.not_mem_nil, or_false] at hp
      rw [hp]; exact nm_gv hn0
  · simp
    exact fin (.preset (.str kw) (.str rw') (.str n1) (.bl _)) 6 _ _ _ _ _ _ _ rfl fun p hp => by
      simp only [Rw.ps, List.mem_cons, List.not_mem_nil, or_false] at hp
      rcases hp with rfl | rfl | rfl | rfl
      · exact .str tk
      · exact .str tw
      · exact nm_gv hn1
      · exact .bl _
  · simp
    exact fin (.use (.str rt) (.str n0)) 7 _ _ _ _ _ _ _ rfl fun p hp => by
      simp only [Rw.ps, List.mem_cons, List.not_mem_nil, or_false] at hp
      rcases hp with rfl | rfl
      · exact .str tr
      · exact nm_gv hn0
end
/-! ### the law -/
theorem due_gv {st : List Ob} {w : Rw} (h : ∀ p ∈ w.ps, GV st p) : ∃ t v, dueT (due w) = [.str t, v] ∧ Tx t ∧ GV st v := by
  cases hd : due w with
  | none => exact ⟨"told", .non, rfl, lit_tx _, .non⟩
  | some p =>
    obtain ⟨k, v⟩ := p
    refine ⟨k.txt, v, rfl, by cases k <;> exact lit_tx _, h v ?_⟩
    cases w <;> simp only [due] at hd <;> (repeat' split at hd) <;> simp_all [Rw.ps]
/-- what repr shows of an item -/
def PvOk (p : PyData) : Prop := p.showable = true ∧ p.depth ≤ 5 ∧ p.shown.length ≤ 200
theorem tx_py {z : Str} (h : Tx z) : PvOk (.str z) := by
  refine ⟨by simp [PyData.showable], by simp [PyData.depth], ?_⟩
  have q := StrLaws.reprText_len z (fun c hc => by have := h.2 c hc; omega)
  have := h.1
  simp only [PyData.shown]
  omega
theorem lt_py {z : Str} (h : Tx z) : PvOk (.list [.str z]) := by
  obtain ⟨a, b, c⟩ := tx_py h
  have l := listText_le [(PyData.str z).shown]
  refine ⟨by simpa [PyData.showable, PyData.showableAll] using a, by simp [PyData.depth, PyData.depthAll], ?_⟩
  have e : (PyData.list [.str z]).shown = listText [(PyData.str z).shown] := by simp [PyData.shown, PyData.shownAll]
  rw [e]
  have q := StrLaws.reprText_len z (fun c hc => by have := h.2 c hc; omega)
  have := h.1
  have e2 : (PyData.str z).shown = reprText z := by simp [PyData.shown]
  rw [e2, piled_cons, piled_nil] at l
  rw [e2]
  omega
theorem pair_ok {t : Str} {p : PyData} (ht : Tx t) (hp : PvOk p) : reprOk2 (.list [.str t, p]) = true := by
  obtain ⟨a1, a2, a3⟩ := tx_py ht
  obtain ⟨b1, b2, b3⟩ := hp
  have l := listText_le [(PyData.str t).shown, p.shown]
  rw [piled_cons, piled_cons, piled_nil] at l
  unfold reprOk2
  have e : (PyData.list [.str t, p]).shown = listText [(PyData.str t).shown, p.shown] := by simp [PyData.shown, PyData.shownAll]
  have d : (PyData.list [.str t, p]).depth ≤ 60 := by simp [PyData.depth, PyData.depthAll]; omega
  have s : (PyData.list [.str t, p]).showable = true := by simp [PyData.showable, PyData.showableAll, b1]
  rw [s, e]
  have hs : sizeLine = 16777216 := sizeLine_eq
  simp only [Bool.true_and, Bool.and_eq_true, decide_eq_true_eq]
  exact ⟨d, by omega⟩
theorem repr_pair {st : List Ob} {t : Str} {v : D} {p : PyData} (ht : Tx t) (e : pyE st v = some p) (hp : PvOk p) : ∃ z, fReprS st [.lst [.str t, v]] = some (.im (.str z)) := by
  refine ⟨(PyData.list [.str t, p]).shown, ?_⟩
  have e1 : pyE st (.str t) = some (.str t) := rfl
  have e2 : pyEs st [.str t, v] = some [.str t, p] := by simp [pyEs, e, e1]
  show (match pyEs st [.str t, v] with
    | some ds => if reprOk2 (.list ds) = true then some (Va.im (.str (PyData.list ds).shown)) else none
    | none => none) = _
  rw [e2]
  simp only [pair_ok ht hp, if_true]
noncomputable def lawA : Sx := (svIf (evT (evBl fIsi (evConsV (evOp fIx (evVar 6) (evC (.int 1))) (evConsV (evC (.ty "list")) evNilV)))) (svExpr (evMut isLst fAppend (evOp fIx (evVar 6) (evC (.int 1))) (evCons (evC (.str ("late" : Str))) evNil))) svSkip)
noncomputable def lawB : Sx := (svIf (evT (evBl fIsi (evConsV (evOp fIx (evVar 6) (evC (.int 1))) (evConsV (evC (.ty "dict")) evNilV)))) (svStore (evC (.str ("late" : Str))) (evOp fIx (evVar 6) (evC (.int 1))) (evBl fLen (evConsV (evOp fIx (evVar 6) (evC (.int 1))) evNilV))) svSkip)
noncomputable def lawC : Sx := (svIf (evB (evOp fNe (evReprS (evConsV (evVar 5) evNilV)) (evReprS (evConsV (evVar 6) evNilV)))) (svRet (evC (.bl false))) svSkip)
noncomputable def lawT : Sx := svSeq lawA (svSeq lawB lawC)
theorem law_eq : f_law = fnOf 1 7 ((svSeq (svFor (evRng1 (evCons (evBl fMax2 (evConsV (evC (.int 2)) (evConsV (evBl fMin2 (evConsV (evC (.int 8)) (evConsV (evBl fLen (evConsV (evVar 0) evNilV)) evNilV))) evNilV))) evNil)) (gvName 1)
  (svSeq (svHow .cell 2 (evCall f__law_box [] (evCons (evCall f__law_cell [] (evCons (evVar 0) (evCons (evVar 1) evNil))) evNil)))
  (svFor (evRng1 (evCons (evC (.int 12)) evNil)) (gvName 3)
  (svSeq (svHow .own 4 (evCall f__law_parts [] (evCons (evVar 2) evNil)))
  (svSeq (svPar 5 6 (evCons (evCall f__law_found [] (evCons (evVar 4) evNil)) (evCons (evCall f__law_due [] (evCons (evVar 4) evNil)) evNil)))
  lawT)))))
  (svRet (evC (.bl true))))) := rfl
theorem lawC_ok {st : List Ob} {t : Str} {v : D} {p : PyData} {x0 x1 x2 x3 x4 : Sl} (ht : Tx t) (e : pyE st v = some p) (hp : PvOk p) {nx bk ct : S → Prop} {rt : Va → S → Prop} {ex : Xc → S → Prop}
    (hq : nx ⟨[x0, x1, x2, x3, x4, .im (.lst [.str t, v]), .im (.lst [.str t, v])], st⟩) : WpS (lawC ⟨[x0, x1, x2, x3, x4, .im (.lst [.str t, v]), .im (.lst [.str t, v])], st⟩) nx rt bk ct ex := by
  obtain ⟨z, hz⟩ := repr_pair ht e hp
  unfold lawC
  simp [hz, str_ne]
  exact hq
theorem lawT_ok {st : List Ob} {t : Str} {v : D} {x0 x1 x2 x3 x4 : Sl} (ht : Tx t) (hv : GV st v) {nx bk ct : S → Prop} {rt : Va → S → Prop} {ex : Xc → S → Prop}
    (hq : ∀ st', (∀ (m : Nat) o, st[m]? = some o → Odd0 o → st'[m]? = some o) → nx ⟨[x0, x1, x2, x3, x4, .im (.lst [.str t, v]), .im (.lst [.str t, v])], st'⟩) :
    WpS (lawT ⟨[x0, x1, x2, x3, x4, .im (.lst [.str t, v]), .im (.lst [.str t, v])], st⟩) nx rt bk ct ex := by
  have hs : sizeLine = 16777216 := sizeLine_eq
  have P := @lawC_ok
  unfold lawT
  generalize lawC = C at P ⊢
  have same : ∀ (m : Nat) o, st[m]? = some o → Odd0 o → st[m]? = some o := fun _ _ h _ => h
  have put : ∀ (k : Nat) (u u' : Ob), st[k]? = some u → ¬ Odd0 u → ∀ (m : Nat) o, st[m]? = some o → Odd0 o → (st.set k u')[m]? = some o := fun k u u' hk hu m o hm ho => by
    have : k ≠ m := fun e => by subst e; rw [hk] at hm; cases hm; exact hu ho
    rw [List.getElem?_set_ne this]; exact hm
  have lt : ∀ {k : Nat} {u : Ob}, st[k]? = some u → k < st.length := fun h => (List.getElem?_eq_some_iff.mp h).1
  simp only [ws_seq]
  cases hv with
  | str h =>
    simp [lawA, lawB, fIsi, tyN, isB, tru]
    exact P ht rfl (tx_py h) (hq _ same)
  | non =>
    simp [lawA, lawB, fIsi, tyN, isB, tru]
    exact P ht rfl ⟨by simp [PyData.showable], by simp [PyData.depth], by simp only [PyData.shown]; rw [ofS_len]; decide⟩ (hq _ same)
  | bl b =>
    simp [lawA, lawB, fIsi, tyN, isB, tru]
    exact P ht rfl ⟨by simp [PyData.showable], by simp [PyData.depth], by simp only [PyData.shown]; cases b <;> (simp only [if_true, if_false, Bool.false_eq_true]; rw [ofS_len]; decide)⟩ (hq _ same)
  | int h =>
    simp [lawA, lawB, fIsi, tyN, isB, tru]
    exact P ht rfl (by rcases h with rfl | rfl | rfl <;> exact ⟨by decide +kernel, by decide +kernel, by decide +kernel⟩) (hq _ same)
  | tup =>
    simp [lawA, lawB, fIsi, tyN, isB, tru]
    exact P ht rfl (by exact ⟨by decide +kernel, by decide +kernel, by decide +kernel⟩) (hq _ same)
  | nil h =>
    have hl := lt h
    simp [lawA, lawB, fIsi, tyN, isB, tru, h, isLst, fAppend]
    refine ⟨by omega, ?_⟩
    refine P (p := .list [.str "late"]) ht ?_ (lt_py (lit_tx "late")) (hq _ (put _ _ _ h fun z => z.1 rfl))
    show ((st.set _ _)[_]?).bind obP = _
    rw [List.getElem?_set_self hl]
    rfl
  | one h =>
    have hl := lt h
    simp [lawA, lawB, fIsi, tyN, isB, tru, h, isLst, fAppend, hs]
    refine P (p := .list [.str "ann", .str "late"]) ht ?_ ⟨by decide +kernel, by decide +kernel, by decide +kernel⟩ (hq _ (put _ _ _ h fun z => z.2.1 rfl))
    show ((st.set _ _)[_]?).bind obP = _
    rw [List.getElem?_set_self hl]
    rfl
  | dk h =>
    have hl := lt h
    simp [lawA, lawB, fIsi, tyN, isB, tru, h, fLen, fStore, putE]
    refine P (p := .dict [(.int 0, .str "late")]) ht ?_ ⟨by decide +kernel, by decide +kernel, by decide +kernel⟩ (hq _ (put _ _ _ h fun z => z.2.2 rfl))
    show ((st.set _ _)[_]?).bind obP = _
    rw [List.getElem?_set_self hl]
    rfl
theorem law_true (ns : List Int) (hns : ns.length ≤ 63) : ∃ st, f_law [.lz (ns.map .int)] [] = .ok (.im (.bl true)) st := by
  refine WpF.eq ?_
  have hs : sizeLine = 16777216 := sizeLine_eq
  have P := @lawT_ok
  rw [law_eq]
  generalize lawT = T at P ⊢
  simp only [wpf_fn, ws_seq, ws_for]
  simp [fMax2, fMin2, fLen]
  have hr : ∃ n : Nat, n ≤ 8 ∧ rng1 [.int (if 2 < (if (ns.length : Int) < 8 then (ns.length : Int) else 8) then (if (ns.length : Int) < 8 then (ns.length : Int) else 8) else 2)] = some (rngD 0 n) := by
    by_cases h1 : (ns.length : Int) < 8
    · by_cases h2 : (2 : Int) < ns.length
      · refine ⟨ns.length, by omega, ?_⟩
        simp [rng1, h1, h2]; omega
      · refine ⟨2, by omega, ?_⟩
        simp [rng1, h1, h2]
    · refine ⟨8, by omega, ?_⟩
      simp [rng1, h1]
  obtain ⟨n, hn, hrn⟩ := hr
  rw [hrn]
  simp only [ow_some]
  refine for_inv _ (fun _ s => ∃ a b c d e f st, s = ⟨[.im (.lz (ns.map .int)), a, b, c, d, e, f], st⟩) ⟨_, _, _, _, _, _, _, rfl⟩ (fun i d s hd hI => ?_) (fun s hI => ?_)
  · obtain ⟨x1, x2, x3, x4, x5, x6, st, rfl⟩ := hI
    obtain ⟨rfl, hi⟩ := rng_get hd
    simp only [ws_seq, ws_for]
    simp [gvName]
    refine cell_ok (by omega) (by omega) _ fun v => ?_
    simp
    refine box_ok _ fun ob hb => ?_
    simp [rng1]
    have h0 : (st ++ [ob])[st.length]? = some ob := by simp
    generalize st ++ [ob] = st1 at h0 ⊢
    generalize st.length = b at h0 ⊢
    refine for_inv _ (fun j s => ∃ a c d e st ob', s = ⟨[.im (.lz (ns.map .int)), .im (.int (i : Nat)), .im (.ref b), a, c, d, e], st⟩ ∧ st[b]? = some ob' ∧ BxO (20 * (j : Nat)) ob') ⟨_, _, _, _, _, ob, rfl, h0, hb.mono (by omega)⟩ (fun j d s hd hI => ?_) (fun s hI => ?_)
    · obtain ⟨y3, y4, y5, y6, st2, ob2, rfl, g1, g2⟩ := hI
      have hj : j < 12 := (rng_get hd).2
      simp only [ws_seq]
      simp [gvName]
      refine parts_ok g1 g2 (by omega) _ fun w m st3 ob3 q1 q2 q3 q4 q5 => ?_
      simp
      refine found_v q3 q4 _ ?_
      simp
      refine lw_due_v q3 q4 _ ?_
      simp
      refine ⟨_, _, ⟨rfl, rfl⟩, ?_⟩
      obtain ⟨t, v, e, ht, hv⟩ := due_gv q4
      rw [e]
      refine P ht hv fun st' hk => ?_
      refine ⟨_, _, _, _, _, rfl, ob3, hk _ _ q1 (bx_no q2), ?_⟩
      have e : 20 * ((j : Int) + 1) = 20 * (j : Nat) + 20 := by omega
      rw [e]; exact q2
    · obtain ⟨y3, y4, y5, y6, st2, ob2, rfl, g1, g2⟩ := hI
      exact ⟨_, _, _, _, _, _, _, rfl⟩
  · simp
end K07
end
section
set_option Elab.async false
set_option linter.all false
set_option maxRecDepth 100000
set_option maxHeartbeats 0
namespace K07
open PySem PySem.Spec L2 VI
theorem facts {P : Program} {w : World} {K : PySem.W.Frag} {h : Heap} {mg : Str → Option Value} {f : Addr} (X : K.In h) (G : h.Ns mainGlobals mg) (hfa : mg ("law" : Str) = some (.ref f)) (c : obsV pp K = valV pp w) (pf : PrgF P fileS) :
    ∃ fd : FuncData, (∀ (s : Shared) (v : Value), BindsTo s fd ⟨[v], []⟩ [("_law_script", v)]) ∧ ∀ base : Heap, VI.FnOk P w K mg base (CW P) lawLevel f fd ["_law_script"] (spLaw K 63) := by
  have env : EnvW K w mg pp := EnvW.of X G c
  have e := hfa.symm.trans (env.at_ lawIx)
  cases e
  obtain ⟨fd, F⟩ := env.defs lawDef d_law rfl
  have b := FunD.bindsA (ps := ["_law_script"]) F fun _ _ _ _ _ _ us hl => match us, hl with | [_], _ => rfl
  exact ⟨fd, fun s v => b s [v] rfl, fun base => cw_ok (law_ok (f := f_law) (o_law' env pf F) (by rw [sizeLine_eq]; decide) law_true)⟩
theorem prg : PrgF PySem.Challenge.rw_rolereach_k07_deeds_refused.prog fileS := ⟨by kernel_rfl, by kernel_rfl⟩
end K07
open PySem PySem.W PySem.Calls PyProof.Rows
theorem PySem.Challenge.cw_rolereach_k07_deeds_refused_holds : PySem.Challenge.rw_rolereach_k07_deeds_refused.Holds := by
  w_on; o_law
  refine HandSHeadRun.head_any (r := OpenLaw.row PySem.Challenge.rw_rolereach_k07_deeds_refused) (q := view (OpenLaw.row PySem.Challenge.rw_rolereach_k07_deeds_refused).prog [48]) (H := K07.hk) (ob := K07.ob) (M := 8000) (loose := [("RoleError" : PySem.Str), ("MissingError" : PySem.Str), ("StateError" : PySem.Str), ("InvalidName" : PySem.Str), ("InvalidTaker" : PySem.Str), ("InvalidRight" : PySem.Str), ("InvalidKind" : PySem.Str), ("InvalidFlag" : PySem.Str), ("LETTERS" : PySem.Str), ("RIGHTS" : PySem.Str), ("RIGHTS_BY_KIND" : PySem.Str), ("PUBLIC" : PySem.Str), ("CALLER" : PySem.Str), ("is_name" : PySem.Str), ("is_taker" : PySem.Str), ("is_right" : PySem.Str), ("is_flag" : PySem.Str), ("MADE_KINDS" : PySem.Str), ("need_name" : PySem.Str), ("need_right" : PySem.Str), ("need_taker" : PySem.Str), ("need_flag" : PySem.Str), ("flagged" : PySem.Str), ("Deed" : PySem.Str), ("Give" : PySem.Str), ("Take" : PySem.Str), ("Call" : PySem.Str), ("Preset" : PySem.Str), ("Use" : PySem.Str), ("_law_cell" : PySem.Str), ("_law_box" : PySem.Str), ("_law_take" : PySem.Str), ("_law_names" : PySem.Str), ("_law_odd" : PySem.Str), ("_law_parts" : PySem.Str), ("_law_is_name" : PySem.Str), ("_law_is_right" : PySem.Str), ("_law_is_taker" : PySem.Str), ("_law_flag_due" : PySem.Str), ("_law_take_due" : PySem.Str), ("_law_preset_due" : PySem.Str), ("_law_due" : PySem.Str), ("_law_made" : PySem.Str), ("_law_found" : PySem.Str)]) (d := HandSHeadRun.topDef (OpenLaw.row PySem.Challenge.rw_rolereach_k07_deeds_refused).prog 48) (kwd := []) K07.ob_eq
    (by kernel_rfl) (fun s => by kernel_rfl) K07.run (by kernel_rfl) (by kernel_rfl) (by kernel_rfl) (by rfl) (by first | assumption | decide +kernel) (by decide +kernel) ⟨rfl, rfl, rfl, rfl, rfl, by decide +kernel⟩ ?hw ?hc
  case hw => w_witness2
  case hc =>
    refine VI.walk_ofG (l := PySem.Challenge.rw_rolereach_k07_deeds_refused) (n := 63) (k := K07.lawLevel) (x := "_law_script") (CX := VI.CW PySem.Challenge.rw_rolereach_k07_deeds_refused.prog) rfl (by decide) (by kernel_rfl) ⟨⟨rfl, by decide, by decide⟩, rfl⟩ ?F (fun _ _ _ _ z => VI.cw_no _ _ _ _ z)
    intro w mg fa h Y G hmg0
    obtain ⟨K, KX, c⟩ := Y
    have hmg : mg ("law" : PySem.Str) = some (.ref fa) := by
      have e : (HandSHeadRun.topDef (OpenLaw.row PySem.Challenge.rw_rolereach_k07_deeds_refused).prog 48).name = ("law" : PySem.Str) := by kernel_rfl
      rw [← e]
      exact hmg0
    obtain ⟨fd, hb, hF⟩ := K07.facts (P := PySem.Challenge.rw_rolereach_k07_deeds_refused.prog) (w := w) KX G hmg c K07.prg
    exact ⟨K, fd, VI.spLaw K 63, KX, hb, fun H a ns hl _ hS => ⟨a, ns, rfl, hl, hS, fun _ => rfl⟩, fun base _ _ => hF base⟩
end
