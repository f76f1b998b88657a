import PyProof.Rows.All
import Wide.All
import OpenK.AllK
import Wide.FinOn
import PySem.Challenge.RW_rolereach_k04_words_of_texts
import HandS.ForMost
import HandS.Walk
import HandS.HeadHook2
import HandS.TupAny
import HandS.Star
import HandS.Flow
import HandS.CallSlots
import HandS.TryMany
import HandS.Deep
import HandS.SortInts
import HandS.IsInst
import HandS.Codes
import HandS.TryOnly
import HandS.Zip
import HandS.StrMore
import HandS.RaiseMore
import HandS.TupLen
import HandS.WordsDict
import HandS.MapJoin
import HandS.Small
import KE.KStateDown
import HandS.Ends
import HandS.More
import HandS.Words
import HandS.WordsExc
import HandS.Head0
import HandS.Head1
import HandS.Head2
import HandS.HeadEnd
import HandS.Style
import HandS.MakeKwOnly
section
set_option Elab.async false
set_option linter.all false
set_option maxRecDepth 100000
set_option maxHeartbeats 2000000
/-! V1: values by content (D), containers that are owned (Ob), the reader's states, the relation to the abstract heap. -/
namespace VI
open PySem PySem.Spec PyProof.Rows L2

/-! ### data -/
inductive D where
  | non | bl (b : Bool) | int (i : Int) | str (x : Str) | ty (n : String)
  | lst (xs : List D) | tup (xs : List D) | lz (xs : List D) | tz (xs : List D)
  | dk (kvs : List (Key × D)) | dt (kvs : List (List Key × D))
  | ins (c : Str) (fs : List (Str × D))
  | ref (i : Nat)
  | fn (x : Str)
  deriving Inhabited
/-- the content of a container that one place owns -/
inductive Ob where
  | lst (xs : List D) | dk (kvs : List (Key × D)) | dt (kvs : List (List Key × D)) | ins (c : Str) (fs : List (Str × D))
def Ob.d : Ob → D
  | .lst xs => .lst xs
  | .dk kvs => .dk kvs
  | .dt kvs => .dt kvs
  | .ins c fs => .ins c fs
/-- what an expression gives: a datum, a new container, the container that slot i owns -/
inductive Va where
  | im (d : D) | fr (o : Ob) | pl (i : Nat)
/-- a slot: nothing yet, a datum, a container of its own (p: handed in to be changed) -/
inductive Sl where
  | un | im (d : D) | ow (p : Bool) (o : Ob)
structure S where
  env : List Sl
  st : List Ob
/-- an exception: its class, its fields -/
structure Xc where
  c : Str
  fs : List (Str × D)
inductive Rs (α : Type) where
  | ok (a : α) (s : S) | ex (x : Xc) (s : S) | no
def M (α : Type) : Type := S → Rs α
def M.pure {α : Type} (a : α) : M α := fun s => .ok a s
def M.bind {α β : Type} (m : M α) (f : α → M β) : M β := fun s => match m s with
  | .ok a s' => f a s'
  | .ex x s' => .ex x s'
  | .no => .no
instance : Monad M where
  pure := M.pure
  bind := M.bind
@[simp] theorem M.pure_run {α : Type} (a : α) (s : S) : (pure a : M α) s = .ok a s := rfl
theorem M.bind_run {α β : Type} (m : M α) (f : α → M β) (s : S) : (m >>= f) s = match m s with
  | .ok a s' => f a s'
  | .ex x s' => .ex x s'
  | .no => .no := rfl
@[simp] theorem M.bind_ok {α β : Type} {m : M α} {f : α → M β} {s s' : S} {a : α} (h : m s = .ok a s') : (m >>= f) s = f a s' := by
  rw [M.bind_run, h]
def M.opt {α : Type} : Option α → M α
  | some a => pure a
  | none => fun _ => .no
/-- what stands there, read -/
def rd (v : Va) (s : S) : Option D := match v with
  | .im (.ref j) => s.st[j]?.map Ob.d
  | .im d => some d
  | .fr o => some o.d
  | .pl i => match s.env[i]? with
    | some (.ow _ o) => some o.d
    | some (.im (.ref _)) => none
    | some (.im d) => some d
    | _ => none
/-- handed on as a datum: a container that a slot owned is owned no more -/
def esc (v : Va) : M D := fun s => match v with
  | .im d => .ok d s
  | .fr o => .ok o.d s
  | .pl i => match s.env[i]? with
    | some (.ow false o) => .ok o.d { s with env := s.env.set i (.im o.d) }
    | some (.im d) => .ok d s
    | _ => .no

/-! ### the relation -/
/-- a dict may be locked by a loop -/
def isD : HO → Prop
  | .dK _ => True
  | .dT _ => True
  | _ => False
def At (H : Hp) (a : Addr) (o : HO) : Prop := H a = some o ∨ (isD o ∧ ∃ ob, H a = some (.frz ob o))
def Sub (F H : Hp) : Prop := ∀ a o, F a = some o → At H a o

section
variable (K : PySem.W.Frag) (al : List Addr) (F : Hp)
mutual
inductive Dat : D → V → Prop
  | non : Dat .non .non
  | bl (b : Bool) : Dat (.bl b) (.bl b)
  | int (i : Int) : Dat (.int i) (.int i)
  | str (x : Str) : Dat (.str x) (.str x)
  | ty (n : String) : Dat (.ty n) (.ty n)
  | lst {a : Addr} {ds : List D} {vs : List V} : F a = some (.lst vs) → DatL ds vs → ds.length ≤ sizeLine → Dat (.lst ds) (.ref a)
  | lz {a : Addr} {ds : List D} {vs : List V} : SqL K F a vs → DatL ds vs → ds.length ≤ sizeLine → Dat (.lz ds) (.ref a)
  | tup {a : Addr} {ds : List D} {vs : List V} : F a = some (.tup vs) → DatL ds vs → ds.length ≤ sizeLine → Dat (.tup ds) (.ref a)
  | tz {a : Addr} {ds : List D} {vs : List V} : SqT K F a vs → DatL ds vs → ds.length ≤ sizeLine → Dat (.tz ds) (.ref a)
  | dk {a : Addr} {ds : List (Key × D)} {vs : List (Key × V)} : Rd F a (.dK vs) → DatK ds vs → Dat (.dk ds) (.ref a)
  | dt {a : Addr} {ds : List (List Key × D)} {vs : List (List Key × V)} : Rd F a (.dT vs) → DatT ds vs → Dat (.dt ds) (.ref a)
  | ins {a dx : Addr} {c : Str} {ds : List (Str × D)} {vs : List (Str × V)} : F a = some (.ins (He.ga K c) dx vs) → DatF ds vs → Dat (.ins c ds) (.ref a)
  | ref {i : Nat} {a : Addr} : al[i]? = some a → Dat (.ref i) (.ref a)
  | fn (x : Str) : Dat (.fn x) (.ref (He.ga K x))
inductive DatL : List D → List V → Prop
  | nil : DatL [] []
  | cons {d : D} {v : V} {ds : List D} {vs : List V} : Dat d v → DatL ds vs → DatL (d :: ds) (v :: vs)
inductive DatK : List (Key × D) → List (Key × V) → Prop
  | nil : DatK [] []
  | cons {k : Key} {d : D} {v : V} {ds : List (Key × D)} {vs : List (Key × V)} : Dat d v → DatK ds vs → DatK ((k, d) :: ds) ((k, v) :: vs)
inductive DatT : List (List Key × D) → List (List Key × V) → Prop
  | nil : DatT [] []
  | cons {k : List Key} {d : D} {v : V} {ds : List (List Key × D)} {vs : List (List Key × V)} : Dat d v → DatT ds vs → DatT ((k, d) :: ds) ((k, v) :: vs)
inductive DatF : List (Str × D) → List (Str × V) → Prop
  | nil : DatF [] []
  | cons {k : Str} {d : D} {v : V} {ds : List (Str × D)} {vs : List (Str × V)} : Dat d v → DatF ds vs → DatF ((k, d) :: ds) ((k, v) :: vs)
end
/-- a container's object -/
def ObR : Ob → HO → Prop
  | .lst ds, .lst vs => DatL K al F ds vs ∧ ds.length ≤ sizeLine
  | .dk ds, .dK vs => DatK K al F ds vs
  | .dt ds, .dT vs => DatT K al F ds vs
  | .ins c ds, .ins C _ vs => C = He.ga K c ∧ DatF K al F ds vs
  | _, _ => False
end
section
variable {K : PySem.W.Frag} {al al' : List Addr} {F F' H H' : Hp}
/-- the ground grows -/
structure Gr (al : List Addr) (F : Hp) (al' : List Addr) (F' : Hp) : Prop where
  f : ∀ a o, F a = some o → F' a = some o
  al : ∃ l, al' = al ++ l
theorem Gr.refl : Gr al F al F := ⟨fun _ _ h => h, [], by simp⟩
theorem Gr.trans {al2 : List Addr} {F2 : Hp} (g : Gr al F al' F') (h : Gr al' F' al2 F2) : Gr al F al2 F2 := by
  obtain ⟨l, e⟩ := g.al
  obtain ⟨m, e2⟩ := h.al
  exact ⟨fun a o q => h.f a o (g.f a o q), l ++ m, by rw [e2, e, List.append_assoc]⟩
theorem Gr.get (g : Gr al F al' F') {i : Nat} {a : Addr} (h : al[i]? = some a) : al'[i]? = some a := by
  obtain ⟨l, rfl⟩ := g.al
  have := (List.getElem?_eq_some_iff.mp h).1
  rw [List.getElem?_append_left this]
  exact h
theorem Gr.seqL (g : Gr al F al' F') {a : Addr} {vs : List V} (h : SqL K F a vs) : SqL K F' a vs := by
  rcases h with (h | ⟨o, h⟩) | h
  · exact .inl (.inl (g.f _ _ h))
  · exact .inl (.inr ⟨o, g.f _ _ h⟩)
  · exact .inr h
theorem Gr.seqT (g : Gr al F al' F') {a : Addr} {vs : List V} (h : SqT K F a vs) : SqT K F' a vs := by
  rcases h with (h | ⟨o, h⟩) | h
  · exact .inl (.inl (g.f _ _ h))
  · exact .inl (.inr ⟨o, g.f _ _ h⟩)
  · exact .inr h
theorem Gr.rd (g : Gr al F al' F') {a : Addr} {o : HO} (h : Rd F a o) : Rd F' a o := by
  rcases h with h | ⟨ob, h⟩
  · exact .inl (g.f _ _ h)
  · exact .inr ⟨ob, g.f _ _ h⟩
mutual
theorem Dat.mono (g : Gr al F al' F') : ∀ {d : D} {v : V}, Dat K al F d v → Dat K al' F' d v
  | _, _, .non => .non
  | _, _, .bl b => .bl b
  | _, _, .int b => .int b
  | _, _, .str b => .str b
  | _, _, .ty b => .ty b
  | _, _, .lst h l z => .lst (g.f _ _ h) (DatL.mono g l) z
  | _, _, .lz h l z => .lz (g.seqL h) (DatL.mono g l) z
  | _, _, .tup h l z => .tup (g.f _ _ h) (DatL.mono g l) z
  | _, _, .tz h l z => .tz (g.seqT h) (DatL.mono g l) z
  | _, _, .dk h l => .dk (g.rd h) (DatK.mono g l)
  | _, _, .dt h l => .dt (g.rd h) (DatT.mono g l)
  | _, _, .ins h l => .ins (g.f _ _ h) (DatF.mono g l)
  | _, _, .ref h => .ref (g.get h)
  | _, _, .fn x => .fn x
theorem DatL.mono (g : Gr al F al' F') : ∀ {d : List D} {v : List V}, DatL K al F d v → DatL K al' F' d v
  | _, _, .nil => .nil
  | _, _, .cons h l => .cons (Dat.mono g h) (DatL.mono g l)
theorem DatK.mono (g : Gr al F al' F') : ∀ {d : List (Key × D)} {v : List (Key × V)}, DatK K al F d v → DatK K al' F' d v
  | _, _, .nil => .nil
  | _, _, .cons h l => .cons (Dat.mono g h) (DatK.mono g l)
theorem DatT.mono (g : Gr al F al' F') : ∀ {d : List (List Key × D)} {v : List (List Key × V)}, DatT K al F d v → DatT K al' F' d v
  | _, _, .nil => .nil
  | _, _, .cons h l => .cons (Dat.mono g h) (DatT.mono g l)
theorem DatF.mono (g : Gr al F al' F') : ∀ {d : List (Str × D)} {v : List (Str × V)}, DatF K al F d v → DatF K al' F' d v
  | _, _, .nil => .nil
  | _, _, .cons h l => .cons (Dat.mono g h) (DatF.mono g l)
end
theorem ObR.mono (g : Gr al F al' F') {o : Ob} {h : HO} (r : ObR K al F o h) : ObR K al' F' o h := by
  cases o <;> cases h <;> first
    | exact r.elim
    | exact ⟨r.1.mono g, r.2⟩
    | exact ⟨r.1, r.2.mono g⟩
    | exact DatK.mono g r
    | exact DatT.mono g r
/-- frozen: laid into the ground -/
theorem ObR.dat {o : Ob} {h : HO} {a : Addr} (r : ObR K al F o h) (e : F a = some h) : Dat K al F o.d (.ref a) := by
  cases o <;> cases h <;> first
    | exact r.elim
    | exact .lst e r.1 r.2
    | exact .dk (.inl e) r
    | exact .dt (.inl e) r
    | (obtain ⟨rfl, q⟩ := r; exact .ins e q)
theorem DatL.length {ds : List D} {vs : List V} : DatL K al F ds vs → ds.length = vs.length
  | .nil => rfl
  | .cons _ t => congrArg (· + 1) t.length
theorem DatL.get {ds : List D} {vs : List V} {i : Nat} {v : V} : DatL K al F ds vs → vs[i]? = some v → ∃ d, ds[i]? = some d ∧ Dat K al F d v
  | .nil, e => by simp at e
  | .cons h t, e => by
    cases i with
    | zero => simp at e; subst e; exact ⟨_, rfl, h⟩
    | succ i => exact t.get (i := i) (by simpa using e)
theorem DatL.getD {ds : List D} {vs : List V} {i : Nat} {d : D} : DatL K al F ds vs → ds[i]? = some d → ∃ v, vs[i]? = some v ∧ Dat K al F d v
  | .nil, e => by simp at e
  | .cons h t, e => by
    cases i with
    | zero => simp at e; subst e; exact ⟨_, rfl, h⟩
    | succ i => exact t.getD (i := i) (by simpa using e)
theorem DatL.app {ds es : List D} {vs us : List V} : DatL K al F ds vs → DatL K al F es us → DatL K al F (ds ++ es) (vs ++ us)
  | .nil, h => h
  | .cons h t, q => .cons h (t.app q)
theorem DatL.set {ds : List D} {vs : List V} {d : D} {v : V} (h : Dat K al F d v) : ∀ {i : Nat}, DatL K al F ds vs → DatL K al F (ds.set i d) (vs.set i v)
  | _, .nil => .nil
  | 0, .cons _ t => .cons h t
  | i + 1, .cons q t => .cons q (DatL.set h (i := i) t)
theorem DatL.take {ds : List D} {vs : List V} : ∀ {n : Nat}, DatL K al F ds vs → DatL K al F (ds.take n) (vs.take n)
  | 0, h => by simpa using DatL.nil
  | n + 1, .nil => by simpa using DatL.nil
  | n + 1, .cons h t => by simpa using DatL.cons h (t.take (n := n))
theorem DatL.drop {ds : List D} {vs : List V} : ∀ {n : Nat}, DatL K al F ds vs → DatL K al F (ds.drop n) (vs.drop n)
  | 0, h => by simpa using h
  | n + 1, .nil => by simpa using DatL.nil
  | n + 1, .cons h t => by simpa using t.drop (n := n)
end
end VI
end
section
set_option Elab.async false
set_option linter.all false
set_option maxRecDepth 100000
set_option maxHeartbeats 2000000
/-! V2: the relation of a reader's state to a body's state, steps, what an expression's reading is worth. -/
namespace VI
open PySem PySem.Spec PyProof.Rows L2

/-! ### steps of the abstract heap -/
/-- from one state to a later one: T may be changed, Z may be laid into the ground -/
structure Ext (T Z : Addr → Prop) (F : Hp) (al : List Addr) (H : Hp) (F' : Hp) (al' : List Addr) (H' : Hp) : Prop where
  f : ∀ a o, F a = some o → F' a = some o
  fn : ∀ a o, F' a = some o → F a = some o ∨ H a = none ∨ Z a
  al : ∃ l, al' = al ++ l ∧ ∀ a ∈ l, H a = none
  keep : ∀ a o, H a = some o → ¬ T a → H' a = some o
  live : ∀ a, H a ≠ none → H' a ≠ none
section
variable {T Z T2 Z2 : Addr → Prop} {F F1 F2 H H1 H2 : Hp} {al al1 al2 : List Addr}
theorem Ext.refl : Ext T Z F al H F al H := ⟨fun _ _ h => h, fun _ _ h => .inl h, ⟨[], by simp, fun _ h => by simp at h⟩, fun _ _ h _ => h, fun _ h => h⟩
theorem Ext.gr (e : Ext T Z F al H F1 al1 H1) : Gr al F al1 F1 := ⟨e.f, let ⟨l, h, _⟩ := e.al; ⟨l, h⟩⟩
theorem Ext.trans (a : Ext T Z F al H F1 al1 H1) (b : Ext T2 Z2 F1 al1 H1 F2 al2 H2) (hT : ∀ x, T2 x → T x ∨ H x = none) (hZ : ∀ x, Z2 x → Z x ∨ H x = none) : Ext T Z F al H F2 al2 H2 := by
  refine ⟨fun x o h => b.f x o (a.f x o h), fun x o h => ?_, ?_, fun x o h ht => ?_, fun x h => b.live x (a.live x h)⟩
  · rcases b.fn x o h with h | h | h
    · exact a.fn x o h
    · refine .inr (.inl ?_)
      cases q : H x with
      | none => rfl
      | some u => exact absurd h (a.live x (by rw [q]; exact Option.some_ne_none u))
    · rcases hZ x h with h | h
      · exact .inr (.inr h)
      · exact .inr (.inl h)
  · obtain ⟨l, e, n⟩ := a.al
    obtain ⟨m, e2, n2⟩ := b.al
    refine ⟨l ++ m, by rw [e2, e, List.append_assoc], fun x hx => ?_⟩
    rcases List.mem_append.mp hx with hx | hx
    · exact n x hx
    · cases q : H x with
      | none => rfl
      | some u => exact absurd (n2 x hx) (a.live x (by rw [q]; exact Option.some_ne_none u))
  · refine b.keep x o (a.keep x o h ht) fun h2 => ?_
    rcases hT x h2 with h2 | h2
    · exact ht h2
    · rw [h2] at h; cases h
theorem Ext.mono (e : Ext T Z F al H F1 al1 H1) (hT : ∀ x, T x → T2 x ∨ H x = none) (hZ : ∀ x, Z x → Z2 x ∨ H x = none) : Ext T2 Z2 F al H F1 al1 H1 :=
  (Ext.refl (T := T2) (Z := Z2)).trans e hT hZ
/-- a new object, laid into the ground -/
theorem Ext.new {p : Addr} {o : HO} (h : H p = none) (hF : F p = none) : Ext T Z F al H (upd F p o) al (upd H p o) := by
  refine ⟨fun a u q => ?_, fun a u q => ?_, ⟨[], by simp, fun _ h => by simp at h⟩, fun a u q _ => ?_, fun a q => ?_⟩
  · rw [upd_ne (ne_of_none q hF)]; exact q
  · by_cases e : a = p
    · subst e; exact .inr (.inl h)
    · rw [upd_ne e] at q; exact .inl q
  · rw [upd_ne (ne_of_none q h)]; exact q
  · by_cases e : a = p
    · subst e; exact absurd h q
    · rw [upd_ne e]; exact q
/-- a new object, not in the ground -/
theorem Ext.new0 {p : Addr} {o : HO} (h : H p = none) : Ext T Z F al H F al (upd H p o) := by
  refine ⟨fun _ _ q => q, fun _ _ q => .inl q, ⟨[], by simp, fun _ h => by simp at h⟩, fun a u q _ => ?_, fun a q => ?_⟩
  · rw [upd_ne (ne_of_none q h)]; exact q
  · by_cases e : a = p
    · subst e; exact absurd h q
    · rw [upd_ne e]; exact q
/-- an object that may be changed is changed -/
theorem Ext.put {p : Addr} {o : HO} (h : T p) : Ext T Z F al H F al (upd H p o) := by
  refine ⟨fun _ _ q => q, fun _ _ q => .inl q, ⟨[], by simp, fun _ h => by simp at h⟩, fun a u q ht => ?_, fun a q => ?_⟩
  · by_cases e : a = p
    · subst e; exact absurd h ht
    · rw [upd_ne e]; exact q
  · by_cases e : a = p
    · subst e; rw [upd_same]; exact Option.some_ne_none _
    · rw [upd_ne e]; exact q
theorem Sub.put {p : Addr} {o : HO} (s : Sub F H) (hF : F p = none) : Sub F (upd H p o) := fun a u q => by
  unfold At
  rw [upd_ne (ne_of_none q hF)]
  exact s a u q
theorem Sub.new {p : Addr} {o : HO} (s : Sub F H) (hF : F p = none) : Sub (upd F p o) (upd H p o) := fun a u q => by
  by_cases e : a = p
  · subst e; rw [upd_same] at q; cases q; exact .inl upd_same
  · rw [upd_ne e] at q
    exact (s.put hF) a u q
theorem Sub.free {p : Addr} (s : Sub F H) (h : H p = none) : F p = none := by
  cases q : F p with
  | none => rfl
  | some o =>
    rcases s p o q with e | ⟨_, ob, e⟩ <;> (rw [h] at e; cases e)
theorem Sub.there {p : Addr} (s : Sub F H) {o : HO} (h : F p = some o) : H p ≠ none := by
  intro q
  rw [s.free q] at h
  cases h
theorem Sub.here {p : Addr} {o : HO} (s : Sub F H) (h : F p = some o) (n : ¬ isD o) : H p = some o := by
  rcases s p o h with e | ⟨d, _⟩
  · exact e
  · exact absurd d n
theorem Sub.seqL {K : PySem.W.Frag} {p : Addr} {vs : List V} (s : Sub F H) (h : SqL K F p vs) : SqL K H p vs := by
  rcases h with (h | ⟨o, h⟩) | h
  · exact .inl (.inl (s.here h (fun z => z)))
  · exact .inl (.inr ⟨o, s.here h (fun z => z)⟩)
  · exact .inr h
theorem Sub.seqT {K : PySem.W.Frag} {p : Addr} {vs : List V} (s : Sub F H) (h : SqT K F p vs) : SqT K H p vs := by
  rcases h with (h | ⟨o, h⟩) | h
  · exact .inl (.inl (s.here h (fun z => z)))
  · exact .inl (.inr ⟨o, s.here h (fun z => z)⟩)
  · exact .inr h
theorem Sub.rd {p : Addr} {o : HO} (s : Sub F H) (h : Rd F p o) : Rd H p o := by
  rcases h with h | ⟨ob, h⟩
  · rcases s p o h with e | ⟨_, ob, e⟩
    · exact .inl e
    · exact .inr ⟨ob, e⟩
  · exact .inr ⟨ob, s.here h (fun z => z)⟩
end

/-! ### a body's state -/
/-- the entry of a body: the ground, the cells, the heap, the places that were handed in to be changed -/
structure Ent where
  F : Hp
  al : List Addr
  H : Hp
  op : List Addr
def Ent.T (E : Ent) (a : Addr) : Prop := a ∈ E.al ∨ a ∈ E.op
section
variable (K : PySem.W.Frag)
/-- the places that slots own (all; those that are not handed in) -/
def Own (env : List Sl) (σ : L2.St) (a : Addr) : Prop := ∃ (i : Nat) (p : Bool) (o : Ob), env[i]? = some (Sl.ow p o) ∧ σ[i]? = some (some (V.ref a))
def Own0 (env : List Sl) (σ : L2.St) (a : Addr) : Prop := ∃ (i : Nat) (o : Ob), env[i]? = some (Sl.ow false o) ∧ σ[i]? = some (some (V.ref a))
def Tch (al : List Addr) (env : List Sl) (σ : L2.St) (a : Addr) : Prop := a ∈ al ∨ Own env σ a
def SlR (al : List Addr) (F H : Hp) : Sl → Option V → Prop
  | .un, _ => True
  | .im d, v => ∃ x, v = some x ∧ Dat K al F d x
  | .ow _ o, v => ∃ a ho, v = some (V.ref a) ∧ F a = none ∧ a ∉ al ∧ H a = some ho ∧ ObR K al F o ho
structure Rel (E : Ent) (F : Hp) (al : List Addr) (H : Hp) (σ : L2.St) (s : S) : Prop where
  sub : Sub F H
  clen : al.length = s.st.length
  cell : ∀ (i : Nat) (a : Addr) (o : Ob), al[i]? = some a → s.st[i]? = some o → F a = none ∧ ∃ ho, H a = some ho ∧ ObR K al F o ho
  nd : al.Nodup
  elen : s.env.length = σ.length
  env : ∀ (i : Nat) (sl : Sl) (v : Option V), s.env[i]? = some sl → σ[i]? = some v → SlR K al F H sl v
  own : ∀ (i j : Nat) (p q : Bool) (o u : Ob) (a : Addr), s.env[i]? = some (.ow p o) → s.env[j]? = some (.ow q u) → σ[i]? = some (some (V.ref a)) → σ[j]? = some (some (V.ref a)) → i = j
  ent : Ext E.T (fun _ => False) E.F E.al E.H F al H
  onew : ∀ (i : Nat) (p : Bool) (o : Ob) (a : Addr), s.env[i]? = some (.ow p o) → σ[i]? = some (some (V.ref a)) → if p = true then a ∈ E.op else E.H a = none
end
/-- a slot's step within an expression -/
def SlS : Sl → Sl → Prop
  | .un, x => x = .un
  | .im d, x => x = .im d
  | .ow p _, x => (∃ o, x = .ow p o) ∨ (p = false ∧ ∃ d, x = .im d)
structure Dec (e e' : List Sl) : Prop where
  len : e'.length = e.length
  st : ∀ (i : Nat) (sl sl' : Sl), e[i]? = some sl → e'[i]? = some sl' → SlS sl sl'
theorem SlS.refl (x : Sl) : SlS x x := by cases x <;> first | rfl | exact .inl ⟨_, rfl⟩
theorem SlS.trans {x y z : Sl} (a : SlS x y) (b : SlS y z) : SlS x z := by
  cases x with
  | un => cases (show y = _ from a); exact b
  | im d => cases (show y = _ from a); exact b
  | ow p o =>
    rcases a with ⟨u, rfl⟩ | ⟨hp, d, rfl⟩
    · exact b
    · cases (show z = _ from b); exact .inr ⟨hp, d, rfl⟩
theorem Dec.refl (e : List Sl) : Dec e e := ⟨rfl, fun i a b h1 h2 => by rw [h1] at h2; cases h2; exact SlS.refl _⟩
theorem Dec.trans {e e1 e2 : List Sl} (a : Dec e e1) (b : Dec e1 e2) : Dec e e2 := ⟨b.len.trans a.len, fun i x z h1 h2 => by
  have hi : i < e1.length := by
    have := (List.getElem?_eq_some_iff.mp h1).1
    rw [a.len]; exact this
  exact (a.st i x _ h1 (List.getElem?_eq_getElem hi)).trans (b.st i _ z (List.getElem?_eq_getElem hi) h2)⟩
theorem Dec.back {e e1 : List Sl} (a : Dec e e1) {i : Nat} {p : Bool} {o : Ob} (h : e1[i]? = some (.ow p o)) : ∃ o', e[i]? = some (.ow p o') := by
  have hi : i < e.length := by
    have := (List.getElem?_eq_some_iff.mp h).1
    rw [a.len] at this; exact this
  have q := a.st i _ _ (List.getElem?_eq_getElem hi) h
  cases x : e[i] with
  | un => rw [x] at q; cases (show Sl.ow p o = _ from q)
  | im d => rw [x] at q; cases (show Sl.ow p o = _ from q)
  | ow p' o' =>
    rw [x] at q
    rcases q with ⟨u, q⟩ | ⟨_, d, q⟩
    · cases q; exact ⟨o', by rw [List.getElem?_eq_getElem hi, x]⟩
    · cases q
theorem Dec.own {e e1 : List Sl} (a : Dec e e1) {σ : L2.St} {x : Addr} : Own e1 σ x → Own e σ x := fun ⟨i, p, o, h1, h2⟩ =>
  let ⟨o', h⟩ := a.back h1
  ⟨i, p, o', h, h2⟩
theorem Dec.own0 {e e1 : List Sl} (a : Dec e e1) {σ : L2.St} {x : Addr} : Own0 e1 σ x → Own0 e σ x := fun ⟨i, o, h1, h2⟩ =>
  let ⟨o', h⟩ := a.back h1
  ⟨i, o', h, h2⟩
/-- a step within an expression -/
structure Stp (σ : L2.St) (s s' : S) (F : Hp) (al : List Addr) (H : Hp) (F' : Hp) (al' : List Addr) (H' : Hp) : Prop where
  ext : Ext (Tch al s.env σ) (Own0 s.env σ) F al H F' al' H'
  dec : Dec s.env s'.env
section
variable {σ : L2.St} {s s1 s2 : S} {F F1 F2 H H1 H2 : Hp} {al al1 al2 : List Addr}
theorem Stp.refl : Stp σ s s F al H F al H := ⟨.refl, .refl _⟩
theorem Stp.tch (a : Stp σ s s1 F al H F1 al1 H1) {x : Addr} (h : Tch al1 s1.env σ x) : Tch al s.env σ x ∨ H x = none := by
  rcases h with h | h
  · obtain ⟨l, e, n⟩ := a.ext.al
    rw [e] at h
    rcases List.mem_append.mp h with h | h
    · exact .inl (.inl h)
    · exact .inr (n x h)
  · exact .inl (.inr (a.dec.own h))
theorem Stp.trans (a : Stp σ s s1 F al H F1 al1 H1) (b : Stp σ s1 s2 F1 al1 H1 F2 al2 H2) : Stp σ s s2 F al H F2 al2 H2 :=
  ⟨a.ext.trans b.ext (fun _ h => a.tch h) fun _ h => .inl (a.dec.own0 h), a.dec.trans b.dec⟩
theorem Stp.gr (a : Stp σ s s1 F al H F1 al1 H1) : Gr al F al1 F1 := a.ext.gr
end

/-! ### values -/
def VaR (K : PySem.W.Frag) (E : Ent) (Hs : Hp) (al : List Addr) (F H : Hp) (σ : L2.St) (s : S) (w : V) : Va → Prop
  | .im d => Dat K al F d w
  | .fr o => ∃ a ho, w = .ref a ∧ F a = none ∧ H a = some ho ∧ ObR K al F o ho ∧ ¬ Tch al s.env σ a ∧ E.H a = none ∧ Hs a = none
  | .pl i => σ[i]? = some (some w) ∧ ∃ sl, s.env[i]? = some sl ∧ sl ≠ .un
section
variable {K : PySem.W.Frag} {E : Ent} {σ : L2.St} {s s1 s2 : S} {F F1 F2 H H1 H2 : Hp} {al al1 al2 : List Addr} {w : V} {va : Va}
theorem VaR.mono {Hs : Hp} (r : VaR K E Hs al F H σ s w va) (a : Stp σ s s1 F al H F1 al1 H1) : VaR K E Hs al1 F1 H1 σ s1 w va := by
  cases va with
  | im d => exact Dat.mono a.gr r
  | fr o =>
    obtain ⟨x, ho, e, h1, h2, h3, h4, h5, h6⟩ := r
    refine ⟨x, ho, e, ?_, a.ext.keep _ _ h2 h4, h3.mono a.gr, fun h => ?_, h5, h6⟩
    · cases q : F1 x with
      | none => rfl
      | some u =>
        rcases a.ext.fn _ _ q with h | h | ⟨i, o', h7, h8⟩
        · rw [h1] at h; cases h
        · rw [h2] at h; cases h
        · exact absurd (Or.inr ⟨i, _, _, h7, h8⟩) h4
    · rcases a.tch h with h | h
      · exact h4 h
      · rw [h2] at h; cases h
  | pl i =>
    obtain ⟨h1, sl, h2, h3⟩ := r
    have hi : i < s1.env.length := by
      rw [a.dec.len]; exact (List.getElem?_eq_some_iff.mp h2).1
    refine ⟨h1, _, List.getElem?_eq_getElem hi, fun h4 => ?_⟩
    have q := a.dec.st i _ _ h2 (List.getElem?_eq_getElem hi)
    rw [h4] at q
    cases sl with
    | un => exact h3 rfl
    | im d => cases (show Sl.un = _ from q)
    | ow p o => rcases q with ⟨u, q⟩ | ⟨_, d, q⟩ <;> cases q
end

/-! ### exceptions -/
/-- the wish of a body: of what is raised at its slots -/
abbrev Wx := L2.WX
def XcR (K : PySem.W.Frag) (al : List Addr) (F H : Hp) (cls : Value) (d : Option Addr) (x : Xc) : Prop :=
  cls = .ref (He.ga K x.c) ∧ ((x.fs = [] ∧ d = none) ∨ ∃ dx vs, d = some dx ∧ H dx = some (.xd vs) ∧ F dx = none ∧ dx ∉ al ∧ DatF K al F x.fs vs)

/-! ### what a reading is worth -/
/-- t: a reading at a state, that wants Q of the value and the heap -/
def Sat {α β : Type} (K : PySem.W.Frag) (E : Ent) (W : Wx) (R : Hp → List Addr → Hp → Hp → S → β → α → Prop) (F : Hp) (al : List Addr) (H : Hp) (σ : L2.St) (s : S) (t : (β → Hp → Prop) → Prop) : Rs α → Prop
  | .ok a s' => ∀ Q : β → Hp → Prop, (∀ w F' al' H', Rel K E F' al' H' σ s' → Stp σ s s' F al H F' al' H' → R H al' F' H' s' w a → Q w H') → t Q
  | .ex x s' => ∀ Q : β → Hp → Prop, (∀ cls d F' al' H', Rel K E F' al' H' σ s' → Stp σ s s' F al H F' al' H' → XcR K al' F' H' cls d x → W cls d σ H') → t Q
  | .no => True
section
variable {α β α' β' : Type} {K : PySem.W.Frag} {E : Ent} {W : Wx} {R : Hp → List Addr → Hp → Hp → S → β → α → Prop} {R' : Hp → List Addr → Hp → Hp → S → β' → α' → Prop}
variable {σ : L2.St} {s s1 : S} {F F1 H H1 : Hp} {al al1 : List Addr}
theorem Sat.ret {t : (β → Hp → Prop) → Prop} {a : α} {w : β} (rel : Rel K E F al H σ s) (r : R H al F H s w a) (h : ∀ Q : β → Hp → Prop, Q w H → t Q) : Sat K E W R F al H σ s t (.ok a s) :=
  fun Q hQ => h Q (hQ w F al H rel .refl r)
/-- what holds from a later start holds from an earlier one -/
def Low {α β : Type} (R : Hp → List Addr → Hp → Hp → S → β → α → Prop) : Prop := ∀ (H H1 : Hp) (al : List Addr) (F' H' : Hp) (s' : S) (w : β) (a : α), (∀ x, H x ≠ none → H1 x ≠ none) → R H1 al F' H' s' w a → R H al F' H' s' w a
theorem Sat.bind (lo : Low R') {t : (β → Hp → Prop) → Prop} {u : β → Hp → (β' → Hp → Prop) → Prop} {m : M α} {f : α → M α'} (h : Sat K E W R F al H σ s t (m s))
    (k : ∀ a s1 w F1 al1 H1, m s = .ok a s1 → Rel K E F1 al1 H1 σ s1 → Stp σ s s1 F al H F1 al1 H1 → R H al1 F1 H1 s1 w a → Sat K E W R' F1 al1 H1 σ s1 (u w H1) (f a s1)) :
    Sat K E W R' F al H σ s (fun Q => t fun w H1 => u w H1 Q) ((m >>= f) s) := by
  rw [M.bind_run]
  cases hm : m s with
  | no => exact True.intro
  | ex x s1 =>
    rw [hm] at h
    exact fun Q hQ => h _ hQ
  | ok a s1 =>
    rw [hm] at h
    show Sat K E W R' F al H σ s _ (f a s1)
    cases hf : f a s1 with
    | no => exact True.intro
    | ex x s2 =>
      refine fun Q hQ => h _ fun w F1 al1 H1 rel stp r => ?_
      have q := k a s1 w F1 al1 H1 hm rel stp r
      rw [hf] at q
      exact q Q fun cls d F2 al2 H2 rel2 stp2 x2 => hQ cls d F2 al2 H2 rel2 (stp.trans stp2) x2
    | ok b s2 =>
      refine fun Q hQ => h _ fun w F1 al1 H1 rel stp r => ?_
      have q := k a s1 w F1 al1 H1 hm rel stp r
      rw [hf] at q
      exact q Q fun w2 F2 al2 H2 rel2 stp2 r2 => hQ w2 F2 al2 H2 rel2 (stp.trans stp2) (lo _ _ _ _ _ _ _ _ stp.ext.live r2)
theorem Sat.bind2 {t : (β → Hp → Prop) → Prop} {u : β → Hp → (β' → Hp → Prop) → Prop} {m : M α} {f : α → M α'} (h : Sat K E W R F al H σ s t (m s))
    (k : ∀ a s1 w F1 al1 H1, m s = .ok a s1 → Rel K E F1 al1 H1 σ s1 → Stp σ s s1 F al H F1 al1 H1 → R H al1 F1 H1 s1 w a → Sat K E W R' F al H σ s (u w H1) (f a s1)) :
    Sat K E W R' F al H σ s (fun Q => t fun w H1 => u w H1 Q) ((m >>= f) s) := by
  rw [M.bind_run]
  cases hm : m s with
  | no => exact True.intro
  | ex x s1 =>
    rw [hm] at h
    exact fun Q hQ => h _ hQ
  | ok a s1 =>
    rw [hm] at h
    show Sat K E W R' F al H σ s _ (f a s1)
    cases hf : f a s1 with
    | no => exact True.intro
    | ex x s2 =>
      refine fun Q hQ => h _ fun w F1 al1 H1 rel stp r => ?_
      have q := k a s1 w F1 al1 H1 hm rel stp r
      rw [hf] at q
      exact q Q hQ
    | ok b s2 =>
      refine fun Q hQ => h _ fun w F1 al1 H1 rel stp r => ?_
      have q := k a s1 w F1 al1 H1 hm rel stp r
      rw [hf] at q
      exact q Q hQ
theorem Sat.imp {t t' : (β → Hp → Prop) → Prop} {r : Rs α} (h : Sat K E W R F al H σ s t r) (ht : ∀ Q, t Q → t' Q) : Sat K E W R F al H σ s t' r := by
  cases r with
  | no => exact True.intro
  | ex x s1 => exact fun Q hQ => ht Q (h Q hQ)
  | ok a s1 => exact fun Q hQ => ht Q (h Q hQ)
/-- a later state's worth is the former one's -/
theorem Sat.after (lo : Low R) {t : (β → Hp → Prop) → Prop} {r : Rs α} (stp : Stp σ s s1 F al H F1 al1 H1) (h : Sat K E W R F1 al1 H1 σ s1 t r) : Sat K E W R F al H σ s t r := by
  cases r with
  | no => exact True.intro
  | ex x s2 => exact fun Q hQ => h Q fun cls d F2 al2 H2 rel2 stp2 x2 => hQ cls d F2 al2 H2 rel2 (stp.trans stp2) x2
  | ok a s2 => exact fun Q hQ => h Q fun w F2 al2 H2 rel2 stp2 r2 => hQ w F2 al2 H2 rel2 (stp.trans stp2) (lo _ _ _ _ _ _ _ _ stp.ext.live r2)
end
/-- the relation of expressions -/
abbrev VR (K : PySem.W.Frag) (E : Ent) (σ : L2.St) : Hp → List Addr → Hp → Hp → S → V → Va → Prop := fun Hs al F H s w va => VaR K E Hs al F H σ s w va
theorem VR.low {K : PySem.W.Frag} {E : Ent} {σ : L2.St} : Low (VR K E σ) := fun H H1 al F' H' s' w a hl r => by
  cases a with
  | im d => exact r
  | pl i => exact r
  | fr o =>
    obtain ⟨x, ho, e, h1, h2, h3, h4, h5, h6⟩ := r
    refine ⟨x, ho, e, h1, h2, h3, h4, h5, ?_⟩
    cases q : H x with
    | none => rfl
    | some u => exact absurd h6 (hl x (by rw [q]; exact Option.some_ne_none u))
def GoodE (K : PySem.W.Frag) (W : Wx) (te : TE) (ev : M Va) : Prop := ∀ (E : Ent) (F : Hp) (al : List Addr) (H : Hp) (σ : L2.St) (s : S), Rel K E F al H σ s → Sat K E W (VR K E σ) F al H σ s (te σ H) (ev s)
/-- an expression's worth: its reading, what it evaluates to -/
def SE (X : Cx) (K : PySem.W.Frag) (W : Wx) (e : Expr) (te : TE) (ev : M Va) : Prop := X.K = K ∧ PE X e te ∧ GoodE K W te ev
abbrev BR : Hp → List Addr → Hp → Hp → S → Bool → Bool → Prop := fun _ _ _ _ _ w b => w = b
theorem BR.low : Low BR := fun _ _ _ _ _ _ _ _ _ r => r
/-- a datum -/
abbrev DR (K : PySem.W.Frag) : Hp → List Addr → Hp → Hp → S → V → D → Prop := fun _ al F _ _ w d => Dat K al F d w
theorem DR.low {K : PySem.W.Frag} : Low (DR K) := fun _ _ _ _ _ _ _ _ _ r => r
def GoodT (K : PySem.W.Frag) (W : Wx) (tt : TT) (ev : M Bool) : Prop := ∀ (E : Ent) (F : Hp) (al : List Addr) (H : Hp) (σ : L2.St) (s : S), Rel K E F al H σ s → Sat K E W BR F al H σ s (tt σ H) (ev s)
def ST (X : Cx) (K : PySem.W.Frag) (W : Wx) (e : Expr) (tt : TT) (ev : M Bool) : Prop := X.K = K ∧ PT X e tt ∧ GoodT K W tt ev
def SW (X : Cx) (K : PySem.W.Frag) (W : Wx) (e : Expr) (tt : TT) (ev : M Bool) : Prop := X.K = K ∧ PW X e tt ∧ GoodT K W tt ev
/-- arguments: data, one behind another (containers of slots are handed on) -/
abbrev LR (K : PySem.W.Frag) : Hp → List Addr → Hp → Hp → S → List V → List D → Prop := fun _ al F _ _ ws ds => DatL K al F ds ws
theorem LR.low {K : PySem.W.Frag} : Low (LR K) := fun _ _ _ _ _ _ _ _ _ r => r
def GoodA (K : PySem.W.Frag) (W : Wx) (ta : TA) (ev : M (List D)) : Prop := ∀ (E : Ent) (F : Hp) (al : List Addr) (H : Hp) (σ : L2.St) (s : S), Rel K E F al H σ s → Sat K E W (LR K) F al H σ s (ta σ H) (ev s)
def SA (X : Cx) (K : PySem.W.Frag) (W : Wx) (es : List Expr) (ta : TA) (ev : M (List D)) : Prop := X.K = K ∧ PA X es ta ∧ GoodA K W ta ev
end VI
end
section
set_option Elab.async false
set_option linter.all false
set_option maxRecDepth 100000
set_option maxHeartbeats 2000000
/-! V3: new objects, handing on, reading; names, constants, operators by values. -/
namespace VI
open PySem PySem.Spec L2

section
variable {K : PySem.W.Frag} {E : Ent} {σ : L2.St} {s s1 : S} {F F1 H H1 : Hp} {al al1 : List Addr} {w : V} {va : Va}
theorem Rel.cellH (r : Rel K E F al H σ s) {a : Addr} (h : a ∈ al) : F a = none ∧ H a ≠ none := by
  obtain ⟨i, hi, e⟩ := List.getElem_of_mem h
  have hj : i < s.st.length := by rw [← r.clen]; exact hi
  obtain ⟨h1, ho, h2, _⟩ := r.cell i a _ (by rw [List.getElem?_eq_getElem hi, e]) (List.getElem?_eq_getElem hj)
  exact ⟨h1, by rw [h2]; exact Option.some_ne_none _⟩
theorem Rel.ownH (r : Rel K E F al H σ s) {a : Addr} (h : Own s.env σ a) : F a = none ∧ a ∉ al ∧ H a ≠ none := by
  obtain ⟨i, p, o, h1, h2⟩ := h
  obtain ⟨b, ho, e, h3, h4, h5, _⟩ := r.env i _ _ h1 h2
  cases e
  exact ⟨h3, h4, by rw [h5]; exact Option.some_ne_none _⟩
theorem Rel.fresh (r : Rel K E F al H σ s) {p : Addr} (h : H p = none) : F p = none ∧ ¬ Tch al s.env σ p ∧ E.H p = none := by
  refine ⟨r.sub.free h, fun t => ?_, ?_⟩
  · rcases t with t | t
    · exact (r.cellH t).2 h
    · exact (r.ownH t).2.2 h
  · cases q : E.H p with
    | none => rfl
    | some o => exact absurd h (r.ent.live p (by rw [q]; exact Option.some_ne_none _))
theorem SlR.put {sl : Sl} {v : Option V} {p : Addr} {o : HO} (h : SlR K al F H sl v) (hp : H p = none) : SlR K al F (upd H p o) sl v := by
  cases sl with
  | un => exact True.intro
  | im d => exact h
  | ow b u =>
    obtain ⟨a, ho, e, h1, h2, h3, h4⟩ := h
    exact ⟨a, ho, e, h1, h2, by rw [upd_ne (ne_of_none h3 hp)]; exact h3, h4⟩
theorem Rel.new0 (r : Rel K E F al H σ s) {p : Addr} {o : HO} (h : H p = none) : Rel K E F al (upd H p o) σ s := by
  have f := r.sub.free h
  refine ⟨r.sub.put f, r.clen, fun i a u h1 h2 => ?_, r.nd, r.elen, fun i sl v h1 h2 => (r.env i sl v h1 h2).put h, r.own, r.ent.trans (Ext.new0 (T := E.T) (Z := fun _ => False) h) (fun _ z => .inl z) (fun _ z => .inl z), r.onew⟩
  obtain ⟨g, ho, e, q⟩ := r.cell i a u h1 h2
  exact ⟨g, ho, by rw [upd_ne (ne_of_none e h)]; exact e, q⟩
theorem Stp.new0 {p : Addr} {o : HO} (h : H p = none) : Stp σ s s F al H F al (upd H p o) := ⟨.new0 h, .refl _⟩
theorem Gr.new {p : Addr} {o : HO} (h : F p = none) : Gr al F al (upd F p o) := ⟨fun a u q => by rw [upd_ne (ne_of_none q h)]; exact q, [], by simp⟩
theorem SlR.gr {sl : Sl} {v : Option V} {p : Addr} {o : HO} (h : SlR K al F H sl v) (hp : H p = none) (hf : F p = none) : SlR K al (upd F p o) (upd H p o) sl v := by
  cases sl with
  | un => exact True.intro
  | im d =>
    obtain ⟨x, e, q⟩ := h
    exact ⟨x, e, q.mono (.new hf)⟩
  | ow b u =>
    obtain ⟨a, ho, e, h1, h2, h3, h4⟩ := h
    have ne := ne_of_none h3 hp
    exact ⟨a, ho, e, by rw [upd_ne ne]; exact h1, h2, by rw [upd_ne ne]; exact h3, h4.mono (.new hf)⟩
theorem Rel.new (r : Rel K E F al H σ s) {p : Addr} {o : HO} (h : H p = none) : Rel K E (upd F p o) al (upd H p o) σ s := by
  have f := r.sub.free h
  refine ⟨r.sub.new f, r.clen, fun i a u h1 h2 => ?_, r.nd, r.elen, fun i sl v h1 h2 => (r.env i sl v h1 h2).gr h f, r.own, r.ent.trans (Ext.new (T := E.T) (Z := fun _ => False) h f) (fun _ z => .inl z) (fun _ z => .inl z), r.onew⟩
  obtain ⟨g, ho, e, q⟩ := r.cell i a u h1 h2
  have ne := ne_of_none e h
  exact ⟨by rw [upd_ne ne]; exact g, ho, by rw [upd_ne ne]; exact e, q.mono (.new f)⟩
theorem Stp.new {p : Addr} {o : HO} (h : H p = none) (hf : F p = none) : Stp σ s s F al H (upd F p o) al (upd H p o) := ⟨.new h hf, .refl _⟩
/-- a new container -/
theorem VaR.new (r : Rel K E F al H σ s) {p : Addr} {o : Ob} {ho : HO} (h : H p = none) (q : ObR K al F o ho) : VaR K E H al F (upd H p ho) σ s (.ref p) (.fr o) := by
  obtain ⟨h1, h2, h3⟩ := r.fresh h
  exact ⟨p, ho, rfl, h1, upd_same, q, h2, h3, h⟩

/-! ### reading -/
/-- p is to be read at w -/
def Rdr (K : PySem.W.Frag) (al : List Addr) (F H : Hp) (p : D) (w : V) : Prop :=
  (Dat K al F p w ∧ ∀ j, p ≠ .ref j) ∨ ∃ a ho o, w = .ref a ∧ H a = some ho ∧ ObR K al F o ho ∧ p = o.d
theorem rd_ok (r : Rel K E F al H σ s) {Hs : Hp} (v : VaR K E Hs al F H σ s w va) {p : D} (h : rd va s = some p) : Rdr K al F H p w := by
  cases va with
  | im d =>
    cases d with
    | ref j =>
      have e : s.st[j]?.map Ob.d = some p := h
      cases q : s.st[j]? with
      | none => rw [q] at e; cases e
      | some o =>
        rw [q] at e
        cases (show Dat K al F (.ref j) w from v) with
        | ref g =>
          obtain ⟨_, ho, h2, h3⟩ := r.cell j _ o g q
          exact .inr ⟨_, ho, o, rfl, h2, h3, (Option.some.inj e).symm⟩
    | _ => cases h; exact .inl ⟨v, fun j e => by cases e⟩
  | fr o =>
    cases h
    obtain ⟨a, ho, e, _, h2, h3, _⟩ := v
    exact .inr ⟨a, ho, o, e, h2, h3, rfl⟩
  | pl i =>
    obtain ⟨h1, sl, h2, h3⟩ := v
    have h : (match s.env[i]? with
      | some (.ow _ o) => some o.d
      | some (.im (.ref _)) => none
      | some (.im d) => some d
      | _ => none) = some p := h
    rw [h2] at h
    cases sl with
    | un => exact absurd rfl h3
    | im d =>
      obtain ⟨x, e, q⟩ := r.env i _ _ h2 h1
      cases e
      cases d with
      | ref j => cases h
      | _ => cases h; exact .inl ⟨q, fun j e => by cases e⟩
    | ow b o =>
      cases h
      obtain ⟨a, ho, e, _, _, h5, h6⟩ := r.env i _ _ h2 h1
      cases e
      exact .inr ⟨a, ho, o, rfl, h5, h6, rfl⟩
theorem Rdr.mono {F1 H1 : Hp} (h : Rdr K al F H p w) (g : Gr al F al1 F1) (k : ∀ a o, w = .ref a → H a = some o → H1 a = some o) : Rdr K al1 F1 H1 p w := by
  rcases h with ⟨d, n⟩ | ⟨a, ho, o, e, h1, h2, h3⟩
  · exact .inl ⟨d.mono g, n⟩
  · exact .inr ⟨a, ho, o, e, k a _ e h1, h2.mono g, h3⟩
theorem Rdr.non (h : Rdr K al F H .non w) : w = .non := by
  rcases h with ⟨d, _⟩ | ⟨a, ho, o, e, h1, h2, h3⟩
  · cases d; rfl
  · cases o <;> cases h3
theorem Rdr.int {i : Int} (h : Rdr K al F H (.int i) w) : w = .int i := by
  rcases h with ⟨d, _⟩ | ⟨a, ho, o, e, h1, h2, h3⟩
  · cases d; rfl
  · cases o <;> cases h3
theorem Rdr.bl {b : Bool} (h : Rdr K al F H (.bl b) w) : w = .bl b := by
  rcases h with ⟨d, _⟩ | ⟨a, ho, o, e, h1, h2, h3⟩
  · cases d; rfl
  · cases o <;> cases h3
theorem Rdr.str {x : Str} (h : Rdr K al F H (.str x) w) : w = .str x := by
  rcases h with ⟨d, _⟩ | ⟨a, ho, o, e, h1, h2, h3⟩
  · cases d; rfl
  · cases o <;> cases h3
theorem Rdr.lst {ds : List D} (r : Sub F H) (h : Rdr K al F H (.lst ds) w) : ∃ a vs, w = .ref a ∧ H a = some (.lst vs) ∧ DatL K al F ds vs ∧ ds.length ≤ sizeLine := by
  rcases h with ⟨d, _⟩ | ⟨a, ho, o, e, h1, h2, h3⟩
  · cases d with
    | lst q l z => exact ⟨_, _, rfl, r.here q (fun z => z), l, z⟩
  · cases o <;> cases h3
    cases ho <;> first | exact h2.elim | skip
    exact ⟨a, _, e, h1, h2.1, h2.2⟩
theorem Rdr.lz {ds : List D} (r : Sub F H) (h : Rdr K al F H (.lz ds) w) : ∃ a vs, w = .ref a ∧ SqL K H a vs ∧ DatL K al F ds vs ∧ ds.length ≤ sizeLine := by
  rcases h with ⟨d, _⟩ | ⟨a, ho, o, e, h1, h2, h3⟩
  · cases d with
    | lz q l z => exact ⟨_, _, rfl, r.seqL q, l, z⟩
  · cases o <;> cases h3
theorem Rdr.tup {ds : List D} (r : Sub F H) (h : Rdr K al F H (.tup ds) w) : ∃ a vs, w = .ref a ∧ H a = some (.tup vs) ∧ DatL K al F ds vs ∧ ds.length ≤ sizeLine := by
  rcases h with ⟨d, _⟩ | ⟨a, ho, o, e, h1, h2, h3⟩
  · cases d with
    | tup q l z => exact ⟨_, _, rfl, r.here q (fun z => z), l, z⟩
  · cases o <;> cases h3
theorem Rdr.tz {ds : List D} (r : Sub F H) (h : Rdr K al F H (.tz ds) w) : ∃ a vs, w = .ref a ∧ SqT K H a vs ∧ DatL K al F ds vs ∧ ds.length ≤ sizeLine := by
  rcases h with ⟨d, _⟩ | ⟨a, ho, o, e, h1, h2, h3⟩
  · cases d with
    | tz q l z => exact ⟨_, _, rfl, r.seqT q, l, z⟩
  · cases o <;> cases h3
theorem Rdr.tupD {ds : List D} (h : Rdr K al F H (.tup ds) w) : Dat K al F (.tup ds) w := by
  rcases h with ⟨d, _⟩ | ⟨a, ho, o, e, h1, h2, h3⟩
  · exact d
  · cases o <;> cases h3
theorem Rdr.dk {ds : List (Key × D)} (r : Sub F H) (h : Rdr K al F H (.dk ds) w) : ∃ a vs, w = .ref a ∧ Rd H a (.dK vs) ∧ DatK K al F ds vs := by
  rcases h with ⟨d, _⟩ | ⟨a, ho, o, e, h1, h2, h3⟩
  · cases d with
    | dk q l => exact ⟨_, _, rfl, r.rd q, l⟩
  · cases o <;> cases h3
    cases ho <;> first | exact h2.elim | skip
    exact ⟨a, _, e, .inl h1, h2⟩
theorem Rdr.dt {ds : List (List Key × D)} (r : Sub F H) (h : Rdr K al F H (.dt ds) w) : ∃ a vs, w = .ref a ∧ Rd H a (.dT vs) ∧ DatT K al F ds vs := by
  rcases h with ⟨d, _⟩ | ⟨a, ho, o, e, h1, h2, h3⟩
  · cases d with
    | dt q l => exact ⟨_, _, rfl, r.rd q, l⟩
  · cases o <;> cases h3
    cases ho <;> first | exact h2.elim | skip
    exact ⟨a, _, e, .inl h1, h2⟩
theorem Rdr.ins {c : Str} {ds : List (Str × D)} (r : Sub F H) (h : Rdr K al F H (.ins c ds) w) : ∃ a dx vs, w = .ref a ∧ H a = some (.ins (He.ga K c) dx vs) ∧ DatF K al F ds vs := by
  rcases h with ⟨d, _⟩ | ⟨a, ho, o, e, h1, h2, h3⟩
  · cases d with
    | ins q l => exact ⟨_, _, _, rfl, r.here q (fun z => z), l⟩
  · cases o <;> cases h3
    cases ho <;> first | exact h2.elim | skip
    obtain ⟨rfl, q⟩ := h2
    exact ⟨a, _, _, e, h1, q⟩

/-! ### handing on -/
theorem Rel.freeze (r : Rel K E F al H σ s) {i : Nat} {o : Ob} {a : Addr} {ho : HO} (h1 : s.env[i]? = some (.ow false o)) (h2 : σ[i]? = some (some (.ref a))) (h5 : H a = some ho) (h6 : ObR K al F o ho) :
    Rel K E (upd F a ho) al H σ { s with env := s.env.set i (.im o.d) } ∧ Stp σ s { s with env := s.env.set i (.im o.d) } F al H (upd F a ho) al H ∧ Dat K al (upd F a ho) o.d (.ref a) := by
  obtain ⟨hF, hal, hH⟩ := r.ownH (a := a) ⟨i, _, _, h1, h2⟩
  have hi : i < s.env.length := (List.getElem?_eq_some_iff.mp h1).1
  have gr : Gr al F al (upd F a ho) := .new hF
  have hd : Dat K al (upd F a ho) o.d (.ref a) := (h6.mono gr).dat upd_same
  have ex : ∀ {T Z : Addr → Prop}, (Z a ∨ H a = none) → Ext T Z F al H (upd F a ho) al H := fun {T Z} hz => by
    refine ⟨gr.f, fun b u q => ?_, ⟨[], by simp, fun _ h => by simp at h⟩, fun _ _ q _ => q, fun _ q => q⟩
    by_cases e : b = a
    · subst e
      rcases hz with z | z
      · exact .inr (.inr z)
      · exact .inr (.inl z)
    · rw [upd_ne e] at q; exact .inl q
  refine ⟨⟨?_, r.clen, fun j b u g1 g2 => ?_, r.nd, ?_, fun j sl v g1 g2 => ?_, fun j k p q u z b g1 g2 g3 g4 => ?_, ?_, fun j p u b g1 g2 => ?_⟩, ⟨ex (.inl ⟨i, o, h1, h2⟩), ?_, fun j sl sl' g1 g2 => ?_⟩, hd⟩
  · intro b u q
    by_cases e : b = a
    · subst e; rw [upd_same] at q; cases q; exact .inl h5
    · rw [upd_ne e] at q; exact r.sub b u q
  · obtain ⟨g, hz, e, q⟩ := r.cell j b u g1 g2
    have ne : b ≠ a := fun z => hal (z ▸ List.mem_of_getElem? g1)
    exact ⟨by rw [upd_ne ne]; exact g, hz, e, q.mono gr⟩
  · rw [List.length_set]; exact r.elen
  · by_cases e : i = j
    · subst e
      rw [List.getElem?_set_self hi] at g1
      cases g1
      rw [h2] at g2
      cases g2
      exact ⟨_, rfl, hd⟩
    · rw [List.getElem?_set_ne e] at g1
      have q := r.env j sl v g1 g2
      cases sl with
      | un => exact True.intro
      | im d =>
        obtain ⟨x, ex, q⟩ := q
        exact ⟨x, ex, q.mono gr⟩
      | ow b u =>
        obtain ⟨c, hc, ec, q1, q2, q3, q4⟩ := q
        subst ec
        have ne : c ≠ a := fun z => e (r.own i j _ _ _ _ a h1 g1 h2 (z ▸ g2))
        exact ⟨c, hc, rfl, by rw [upd_ne ne]; exact q1, q2, q3, q4.mono gr⟩
  · have g1' : j ≠ i := fun z => by subst z; rw [List.getElem?_set_self hi] at g1; cases g1
    have g2' : k ≠ i := fun z => by subst z; rw [List.getElem?_set_self hi] at g2; cases g2
    rw [List.getElem?_set_ne g1'.symm] at g1
    rw [List.getElem?_set_ne g2'.symm] at g2
    exact r.own j k p q u z b g1 g2 g3 g4
  · refine r.ent.trans (ex (T := E.T) (Z := fun x => x = a) (.inl rfl)) (fun _ z => .inl z) fun x hx => ?_
    subst hx
    exact .inr (by simpa using r.onew i false o x h1 h2)
  · have g1' : j ≠ i := fun z => by subst z; rw [List.getElem?_set_self hi] at g1; cases g1
    rw [List.getElem?_set_ne g1'.symm] at g1
    exact r.onew j p u b g1 g2
  · rw [List.length_set]
  · by_cases e : i = j
    · subst e
      rw [List.getElem?_set_self hi] at g2
      rw [h1] at g1
      cases g1; cases g2
      exact .inr ⟨rfl, _, rfl⟩
    · rw [List.getElem?_set_ne e] at g2
      rw [g1] at g2
      cases g2
      exact SlS.refl _
/-- a value, handed on at once -/
theorem Sat.esc {W : Wx} {t : (V → Hp → Prop) → Prop} {m : M Va} (h : Sat K E W (VR K E σ) F al H σ s t (m s)) : Sat K E W (DR K) F al H σ s t ((m >>= esc) s) := by
  rw [M.bind_run]
  cases hm : m s with
  | no => exact True.intro
  | ex x s1 => rw [hm] at h; exact h
  | ok va s1 =>
    rw [hm] at h
    cases va with
    | im d => exact fun Q hQ => h Q fun w F1 al1 H1 rel stp r => hQ w F1 al1 H1 rel stp r
    | fr o =>
      refine fun Q hQ => h Q fun w F1 al1 H1 rel stp r => ?_
      obtain ⟨a, ho, e, h1, h2, h3, h4, h5, h6⟩ := r
      subst e
      have gr : Gr al1 F1 al1 (upd F1 a ho) := .new h1
      have ex : ∀ {T Z : Addr → Prop}, Ext T (fun x => x = a ∨ Z x) F1 al1 H1 (upd F1 a ho) al1 H1 := fun {T Z} => by
        refine ⟨gr.f, fun b u q => ?_, ⟨[], by simp, fun _ h => by simp at h⟩, fun _ _ q _ => q, fun _ q => q⟩
        by_cases e : b = a
        · exact .inr (.inr (.inl e))
        · rw [upd_ne e] at q; exact .inl q
      refine hQ _ (upd F1 a ho) al1 H1 ⟨?_, rel.clen, fun j b u g1 g2 => ?_, rel.nd, rel.elen, fun j sl v g1 g2 => ?_, rel.own, ?_, rel.onew⟩ ⟨stp.ext.trans (T2 := Tch al s.env σ) (Z2 := fun x => x = a ∨ Own0 s.env σ x) ex (fun _ z => .inl z) (fun x z => ?_), stp.dec⟩ ((h3.mono gr).dat upd_same)
      · intro b u q
        by_cases e : b = a
        · subst e; rw [upd_same] at q; cases q; exact .inl h2
        · rw [upd_ne e] at q; exact rel.sub b u q
      · obtain ⟨g, hz, e, q⟩ := rel.cell j b u g1 g2
        have ne : b ≠ a := fun z => h4 (.inl (z ▸ List.mem_of_getElem? g1))
        exact ⟨by rw [upd_ne ne]; exact g, hz, e, q.mono gr⟩
      · have q := rel.env j sl v g1 g2
        cases sl with
        | un => exact True.intro
        | im d =>
          obtain ⟨x, ex, q⟩ := q
          exact ⟨x, ex, q.mono gr⟩
        | ow b u =>
          obtain ⟨c, hc, ec, q1, q2, q3, q4⟩ := q
          subst ec
          have ne : c ≠ a := fun z => h4 (.inr ⟨j, _, _, g1, z ▸ g2⟩)
          exact ⟨c, hc, rfl, by rw [upd_ne ne]; exact q1, q2, q3, q4.mono gr⟩
      · refine rel.ent.trans (T2 := E.T) (Z2 := fun x => x = a ∨ False) ex (fun _ z => .inl z) fun x hx => ?_
        rcases hx with hx | hx
        · subst hx; exact .inr h5
        · exact hx.elim
      · rcases z with z | z
        · subst z; exact .inr h6
        · exact .inl z
    | pl i =>
      show Sat K E W (DR K) F al H σ s t (match s1.env[i]? with
        | some (.ow false o) => .ok o.d { s1 with env := s1.env.set i (.im o.d) }
        | some (.im d) => .ok d s1
        | _ => .no)
      cases he : s1.env[i]? with
      | none => exact True.intro
      | some sl =>
        cases sl with
        | un => exact True.intro
        | im d =>
          refine fun Q hQ => h Q fun w F1 al1 H1 rel stp r => ?_
          obtain ⟨x, e, q⟩ := rel.env i _ _ he r.1
          cases e
          exact hQ w F1 al1 H1 rel stp q
        | ow p o =>
          cases p with
          | true => exact True.intro
          | false =>
            refine fun Q hQ => h Q fun w F1 al1 H1 rel stp r => ?_
            obtain ⟨a, ho, e, _, _, h5, h6⟩ := rel.env i _ _ he r.1
            cases e
            obtain ⟨r1, r2, r3⟩ := rel.freeze he r.1 h5 h6
            exact hQ _ _ al1 H1 r1 (stp.trans r2) r3
end
end VI
end
section
set_option Elab.async false
set_option linter.all false
set_option maxRecDepth 100000
set_option maxHeartbeats 2000000
/-! V4: names, constants, operators and comparisons by values, subscripts, tests. -/
namespace VI
open PySem PySem.Spec L2

/-! ### names, constants -/
def evVar (i : Nat) : M Va := fun s => match s.env[i]? with
  | some (.im d) => .ok (.im d) s
  | some (.ow _ _) => .ok (.pl i) s
  | _ => .no
def evC (d : D) : M Va := fun s => .ok (.im d) s
section
variable {X : Cx} {W : Wx} {K : PySem.W.Frag}
theorem good_var (i : Nat) : GoodE K W (tVar i) (evVar i) := fun E F al H σ s rel => by
  unfold evVar
  cases h : s.env[i]? with
  | none => exact True.intro
  | some sl =>
    cases sl with
    | un => exact True.intro
    | im d =>
      have hi : i < σ.length := by rw [← rel.elen]; exact (List.getElem?_eq_some_iff.mp h).1
      obtain ⟨v, e, q⟩ := rel.env i _ _ h (List.getElem?_eq_getElem hi)
      exact fun Q hQ => ⟨v, by rw [List.getElem?_eq_getElem hi, e], hQ v F al H rel .refl q⟩
    | ow p o =>
      have hi : i < σ.length := by rw [← rel.elen]; exact (List.getElem?_eq_some_iff.mp h).1
      obtain ⟨a, ho, e, _⟩ := rel.env i _ _ h (List.getElem?_eq_getElem hi)
      have e2 : σ[i]? = some (some (V.ref a)) := by rw [List.getElem?_eq_getElem hi, e]
      exact fun Q hQ => ⟨.ref a, e2, hQ _ F al H rel .refl ⟨e2, _, h, fun z => by cases z⟩⟩
theorem good_c {d : D} {v : V} (h : ∀ al F, Dat K al F d v) : GoodE K W (tC v) (evC d) := fun E F al H σ s rel =>
  Sat.ret rel (h al F) fun Q q => q
theorem se_var (i : Nat) {x : Str} {pos : Pos} (hK : X.K = K := by rfl) (hN : X.N[i]? = some x := by rfl) (hv : Vis X.env.scope x := by first | exact Or.inl rfl | exact Or.inr (Or.inl rfl) | exact Or.inr (Or.inr rfl)) (hd : (x == ("__debug__" : Str)) = false := by decide)
    (hcd : (x == ("__classdict__" : Str)) = false := by decide) : SE X K W (.Name x pos) (tVar i) (evVar i) := ⟨hK, pe_var hN hv hd hcd, good_var i⟩
theorem se_int {i j pos} (hK : X.K = K := by rfl) : SE X K W (.Constant (.int i) j pos) (tC (.int i)) (evC (.int i)) := ⟨hK, pe_int, good_c fun _ _ => .int i⟩
theorem se_bl {b j pos} (hK : X.K = K := by rfl) : SE X K W (.Constant (.bool b) j pos) (tC (.bl b)) (evC (.bl b)) := ⟨hK, pe_bl, good_c fun _ _ => .bl b⟩
theorem se_non {j pos} (hK : X.K = K := by rfl) : SE X K W (.Constant .none j pos) (tC .non) (evC .non) := ⟨hK, pe_non, good_c fun _ _ => .non⟩
theorem se_str {x j pos} (hK : X.K = K := by rfl) : SE X K W (.Constant (.str x) j pos) (tC (.str x)) (evC (.str x)) := ⟨hK, pe_str, good_c fun _ _ => .str x⟩

/-! ### operators -/
def evOp (f : D → D → Option Va) (a b : M Va) : M Va := a >>= fun x => b >>= fun y => fun s => match rd x s, rd y s with
  | some p, some q => (match f p q with
    | some v => .ok v s
    | none => .no)
  | _, _ => .no
/-- r carries f out -/
def OpS (K : PySem.W.Frag) (r : R2) (f : D → D → Option Va) : Prop := ∀ (E : Ent) (F : Hp) (al : List Addr) (H : Hp) (σ : L2.St) (s : S) (x y : V) (p q : D) (va : Va), Rel K E F al H σ s → Rdr K al F H p x → Rdr K al F H q y → f p q = some va →
  ∀ Q : VK, (∀ w F' al' H', Rel K E F' al' H' σ s → Stp σ s s F al H F' al' H' → VaR K E H al' F' H' σ s w va → Q w H') → r x y H Q
theorem VaR.rdrAt {E : Ent} {Hs : Hp} {F F1 H H1 : Hp} {al al1 : List Addr} {σ : L2.St} {s s1 : S} {w : V} {va : Va} {p : D} (r1 : Rel K E F1 al1 H1 σ s1) (v : VaR K E Hs al F H σ s w va) (st : Stp σ s s1 F al H F1 al1 H1) (h : rd va s1 = some p) : Rdr K al1 F1 H1 p w :=
  rd_ok r1 (v.mono st) h
theorem good_op {r : R2} {f : D → D → Option Va} {ta tb : TE} {a b : M Va} (ga : GoodE K W ta a) (gb : GoodE K W tb b) (hs : OpS K r f) : GoodE K W (tOp r ta tb) (evOp f a b) := fun E F al H σ s rel => by
  refine Sat.bind (u := fun x H1 Q => tb σ H1 fun y H2 => r x y H2 Q) VR.low (ga E F al H σ s rel) fun x s1 w1 F1 al1 H1 _ rel1 st1 v1 => ?_
  refine Sat.bind (u := fun y H2 Q => r w1 y H2 Q) VR.low (gb E F1 al1 H1 σ s1 rel1) fun y s2 w2 F2 al2 H2 _ rel2 st2 v2 => ?_
  show Sat K E W (VR K E σ) F2 al2 H2 σ s2 (fun Q => r w1 w2 H2 Q) (match rd x s2, rd y s2 with
    | some p, some q => (match f p q with
      | some v => .ok v s2
      | none => .no)
    | _, _ => .no)
  cases hx : rd x s2 with
  | none => exact True.intro
  | some p =>
    cases hy : rd y s2 with
    | none => exact True.intro
    | some q =>
      show Sat K E W (VR K E σ) F2 al2 H2 σ s2 (fun Q => r w1 w2 H2 Q) (match f p q with
        | some v => .ok v s2
        | none => .no)
      cases hf : f p q with
      | none => exact True.intro
      | some va => exact fun Q hQ => hs E F2 al2 H2 σ s2 w1 w2 p q va rel2 (VaR.rdrAt rel2 v1 st2 hx) (rd_ok rel2 v2 hy) hf Q hQ
theorem se_bin {op : Operator} {r : R2} {f : D → D → Option Va} {a b : Expr} {ea eb : M Va} {pos : Pos} (ho : OpR X (binaryOp op) r) (hs : OpS K r f) (ha : SE X K W a tha ea) (hb : SE X K W b thb eb) : SE X K W (.BinOp a op b pos) (tOp r tha thb) (evOp f ea eb) := by
  obtain ⟨rfl, pa, ga⟩ := ha
  obtain ⟨_, pb, gb⟩ := hb
  exact ⟨rfl, pe_op ho pa pb, good_op ga gb hs⟩
theorem se_cmp {op : CmpOp} {r : R2} {f : D → D → Option Va} {a b : Expr} {ea eb : M Va} {pos : Pos} (ho : OpR X (compareOp op) r) (hs : OpS K r f) (ha : SE X K W a tha ea) (hb : SE X K W b thb eb) (hm : behindInMarks op b = false) : SE X K W (.Compare a [op] [b] pos) (tOp r tha thb) (evOp f ea eb) := by
  obtain ⟨rfl, pa, ga⟩ := ha
  obtain ⟨_, pb, gb⟩ := hb
  exact ⟨rfl, pe_cmpR ho pa pb hm, good_op ga gb hs⟩
/-- a value that must be a bool -/
def evB (m : M Va) : M Bool := m >>= fun v => match v with
  | .im (.bl b) => pure b
  | _ => fun _ => .no
theorem good_tt {te : TE} {m : M Va} (g : GoodE K W te m) : GoodT K W (tTest te) (evB m) := fun E F al H σ s rel => by
  refine Sat.bind (u := fun x H' Q => ∃ k, x = .bl k ∧ Q k H') BR.low (g E F al H σ s rel) fun x s1 w1 F1 al1 H1 _ rel1 st1 v1 => ?_
  cases x with
  | im d =>
    cases d with
    | bl b =>
      cases (show Dat K al1 F1 (.bl b) w1 from v1)
      exact fun Q hQ => ⟨b, rfl, hQ b F1 al1 H1 rel1 .refl rfl⟩
    | _ => exact True.intro
  | _ => exact True.intro
theorem st_cmp {op : CmpOp} {r : R2} {f : D → D → Option Va} {a b : Expr} {ea eb : M Va} {pos : Pos} (ho : OpR X (compareOp op) r) (hs : OpS K r f) (ha : SE X K W a tha ea) (hb : SE X K W b thb eb) (hm : behindInMarks op b = false) : ST X K W (.Compare a [op] [b] pos) (tTest (tOp r tha thb)) (evB (evOp f ea eb)) := by
  obtain ⟨rfl, pa, ga⟩ := ha
  obtain ⟨_, pb, gb⟩ := hb
  exact ⟨rfl, pt_cmpR ho pa pb hm, good_tt (good_op ga gb hs)⟩

/-! ### what a value rule hands back -/
section
variable {E : Ent} {F H : Hp} {al : List Addr} {σ : L2.St} {s : S} {va : Va} {Q : VK}
/-- a datum that needs no object -/
theorem fin_d (rel : Rel K E F al H σ s) {d : D} {w : V} (hw : Dat K al F d w) (hQ : ∀ w F' al' H', Rel K E F' al' H' σ s → Stp σ s s F al H F' al' H' → VaR K E H al' F' H' σ s w (.im d) → Q w H') : Q w H := hQ w F al H rel .refl hw
/-- a new list -/
theorem fin_l (rel : Rel K E F al H σ s) {ds : List D} {vs : List V} (h : DatL K al F ds vs) (z : ds.length ≤ sizeLine) (hQ : ∀ w F' al' H', Rel K E F' al' H' σ s → Stp σ s s F al H F' al' H' → VaR K E H al' F' H' σ s w (.fr (.lst ds)) → Q w H') (p : Addr) (hp : H p = none) : Q (.ref p) (upd H p (.lst vs)) :=
  hQ _ F al _ (rel.new0 hp) (.new0 hp) (.new rel hp ⟨h, z⟩)
/-- a new tuple -/
theorem fin_t (rel : Rel K E F al H σ s) {ds : List D} {vs : List V} (h : DatL K al F ds vs) (z : ds.length ≤ sizeLine) (hQ : ∀ w F' al' H', Rel K E F' al' H' σ s → Stp σ s s F al H F' al' H' → VaR K E H al' F' H' σ s w (.im (.tup ds)) → Q w H') (p : Addr) (hp : H p = none) : Q (.ref p) (upd H p (.tup vs)) :=
  have hf := rel.sub.free hp
  hQ _ (upd F p (.tup vs)) al _ (rel.new hp) (.new hp hf) (Dat.tup upd_same (h.mono (.new hf)) z)
end
theorem OpS.or {r r' : R2} {f f' : D → D → Option Va} (h : OpS K r f) (h' : OpS K r' f') : OpS K (fun x y H Q => r x y H Q ∨ r' x y H Q) (fun p q => match f p q with
    | some v => some v
    | none => f' p q) := fun E F al H σ s x y p q va rel rx ry e Q hQ => by
  have e : (match f p q with
    | some v => some v
    | none => f' p q) = some va := e
  cases hf : f p q with
  | some v => rw [hf] at e; exact .inl (h E F al H σ s x y p q va rel rx ry (by rw [hf]; exact e) Q hQ)
  | none => rw [hf] at e; exact .inr (h' E F al H σ s x y p q va rel rx ry e Q hQ)

/-! ### arithmetic -/
def fAdd : D → D → Option Va
  | .int i, .int j => some (.im (.int (i + j)))
  | .str x, .str y => if x.length + y.length ≤ sizeLine then some (.im (.str (x ++ y))) else none
  | .lst xs, .lst ys => if xs.length + ys.length ≤ sizeLine then some (.fr (.lst (xs ++ ys))) else none
  | .tup xs, .tup ys => if xs.length + ys.length ≤ sizeLine then some (.im (.tup (xs ++ ys))) else none
  | _, _ => none
def rAddX (K : PySem.W.Frag) : R2 := fun x y H Q => (rI0 fun i j => .int (i + j)) x y H Q ∨ (fun x y H Q => (fun x y H Q => ∃ i j, x = .str i ∧ y = .str j ∧ i.length + j.length ≤ sizeLine ∧ Q (.str (i ++ j)) H) x y H Q ∨ (fun x y H Q => rCat x y H Q ∨ L2.rCatA K x y H Q) x y H Q) x y H Q
theorem op_addX : OpR X (binaryOp .Add) (rAddX X.K) := OpR.or op_add (OpR.or op_add_str (OpR.or op_cat op_catA))
theorem ops_add : OpS K (rAddX K) fAdd := fun E F al H σ s x y p q va rel rx ry e Q hQ => by
  unfold fAdd at e
  split at e
  · cases e
    cases rx.int; cases ry.int
    exact .inl ⟨_, _, rfl, rfl, fin_d rel (.int _) hQ⟩
  · split at e
    · cases e
      cases rx.str; cases ry.str
      exact .inr (.inl ⟨_, _, rfl, rfl, by assumption, fin_d rel (.str _) hQ⟩)
    · cases e
  · split at e
    · rename_i hz
      cases e
      obtain ⟨a, vs, rfl, h1, l1, z1⟩ := rx.lst rel.sub
      obtain ⟨b, us, rfl, h2, l2, z2⟩ := ry.lst rel.sub
      have e1 := l1.length
      have e2 := l2.length
      exact .inr (.inr (.inl ⟨a, b, vs, us, rfl, rfl, h1, h2, by omega, fin_l rel (l1.app l2) (by rw [List.length_append]; exact hz) hQ⟩))
    · cases e
  · split at e
    · rename_i xs ys hz
      cases e
      obtain ⟨a, vs, rfl, h1, l1, z1⟩ := rx.tup rel.sub
      obtain ⟨b, us, rfl, h2, l2, z2⟩ := ry.tup rel.sub
      have e1 := l1.length
      have e2 := l2.length
      refine .inr (.inr (.inr ⟨a, b, vs, us, rfl, rfl, .of h1, .of h2, by omega, fun h => ?_, fun _ h => ?_, fun _ _ p hp => fin_t rel (l1.app l2) (by rw [List.length_append]; exact hz) hQ p hp⟩))
      · have hn : us = us ∧ vs = [] := ⟨rfl, h⟩
        subst h
        cases l1
        exact hQ _ F al H rel .refl ry.tupD
      · subst h
        cases l2
        rw [List.append_nil] at hQ
        exact hQ _ F al H rel .refl rx.tupD
    · cases e
  · cases e
end
end VI
end
section
set_option Elab.async false
set_option linter.all false
set_option maxRecDepth 100000
set_option maxHeartbeats 2000000
/-! V5: == of data, in. -/
namespace VI
open PySem PySem.Spec L2

/-- None, bools, ints, texts, lists and tuples of these, less than n deep -/
def bas : Nat → D → Bool
  | 0, _ => false
  | _ + 1, .non => true
  | _ + 1, .bl _ => true
  | _ + 1, .int _ => true
  | _ + 1, .str _ => true
  | n + 1, .lst xs => xs.all (bas n)
  | n + 1, .tup xs => xs.all (bas n)
  | _ + 1, _ => false
def eqb : Nat → D → D → Bool
  | 0, _, _ => false
  | _ + 1, .non, .non => true
  | _ + 1, .bl a, .bl b => a == b
  | _ + 1, .bl a, .int j => (if a then 1 else 0) == j
  | _ + 1, .int i, .bl b => i == (if b then 1 else 0)
  | _ + 1, .int i, .int j => i == j
  | _ + 1, .str x, .str y => x == y
  | n + 1, .lst xs, .lst ys => xs.length == ys.length && (xs.zip ys).all fun p => eqb n p.1 p.2
  | n + 1, .tup xs, .tup ys => xs.length == ys.length && (xs.zip ys).all fun p => eqb n p.1 p.2
  | _ + 1, _, _ => false
theorem eqb_refl : ∀ (n : Nat) (p : D), bas n p = true → eqb n p p = true
  | 0, _, h => by cases h
  | n + 1, .non, _ => rfl
  | n + 1, .bl _, _ => by simp [eqb]
  | n + 1, .int _, _ => by simp [eqb]
  | n + 1, .str _, _ => by simp [eqb]
  | n + 1, .lst xs, h => by
    have h : xs.all (bas n) = true := h
    simp only [eqb, beq_self_eq_true, Bool.true_and, List.all_eq_true]
    intro q hq
    obtain ⟨i, hi, e⟩ := List.getElem_of_mem hq
    rw [List.getElem_zip] at e
    subst e
    exact eqb_refl n _ (List.all_eq_true.mp h _ (List.getElem_mem _))
  | n + 1, .tup xs, h => by
    have h : xs.all (bas n) = true := h
    simp only [eqb, beq_self_eq_true, Bool.true_and, List.all_eq_true]
    intro q hq
    obtain ⟨i, hi, e⟩ := List.getElem_of_mem hq
    rw [List.getElem_zip] at e
    subst e
    exact eqb_refl n _ (List.all_eq_true.mp h _ (List.getElem_mem _))
  | n + 1, .lz _, h => by cases h
  | n + 1, .tz _, h => by cases h
  | n + 1, .ty _, h => by cases h
  | n + 1, .dk _, h => by cases h
  | n + 1, .dt _, h => by cases h
  | n + 1, .ins _ _, h => by cases h
  | n + 1, .ref _, h => by cases h
  | n + 1, .fn _, h => by cases h
section
variable {K : PySem.W.Frag} {al : List Addr} {F H : Hp} {w : V}
theorem Dat.rdr {p : D} (h : Dat K al F p w) {n : Nat} (b : bas n p = true) : Rdr K al F H p w := .inl ⟨h, fun j e => by subst e; cases n <;> cases b⟩
theorem uniqL {n : Nat} (ih : ∀ (p q : D) (w : V), bas n p = true → bas n q = true → Dat K al F p w → Dat K al F q w → p = q) : ∀ (xs ys : List D) (vs : List V), xs.all (bas n) = true → ys.all (bas n) = true → DatL K al F xs vs → DatL K al F ys vs → xs = ys
  | _, _, _, _, _, .nil, .nil => rfl
  | _, _, _, b1, b2, .cons h t, .cons h' t' => by
    rw [List.all_cons, Bool.and_eq_true] at b1 b2
    rw [ih _ _ _ b1.1 b2.1 h h', uniqL ih _ _ _ b1.2 b2.2 t t']
theorem uniq (hs : Sub F H) : ∀ (n : Nat) (p q : D) (w : V), bas n p = true → bas n q = true → Rdr K al F H p w → Rdr K al F H q w → p = q
  | 0, _, _, _, h, _, _, _ => by cases h
  | n + 1, p, q, w, bp, bq, rp, rq => by
    have ih := uniqL (K := K) (al := al) (F := F) (n := n) fun p q w b1 b2 d1 d2 => uniq hs n p q w b1 b2 (d1.rdr b1) (d2.rdr b2)
    cases p with
    | non =>
      cases rp.non
      cases q with
      | non => rfl
      | bl _ => cases rq.bl
      | int _ => cases rq.int
      | str _ => cases rq.str
      | lst _ => obtain ⟨a, _, e, _⟩ := rq.lst hs; cases e
      | tup _ => obtain ⟨a, _, e, _⟩ := rq.tup hs; cases e
      | _ => cases bq
    | bl b =>
      cases rp.bl
      cases q with
      | non => cases rq.non
      | bl _ => cases rq.bl; rfl
      | int _ => cases rq.int
      | str _ => cases rq.str
      | lst _ => obtain ⟨a, _, e, _⟩ := rq.lst hs; cases e
      | tup _ => obtain ⟨a, _, e, _⟩ := rq.tup hs; cases e
      | _ => cases bq
    | int b =>
      cases rp.int
      cases q with
      | non => cases rq.non
      | bl _ => cases rq.bl
      | int _ => cases rq.int; rfl
      | str _ => cases rq.str
      | lst _ => obtain ⟨a, _, e, _⟩ := rq.lst hs; cases e
      | tup _ => obtain ⟨a, _, e, _⟩ := rq.tup hs; cases e
      | _ => cases bq
    | str b =>
      cases rp.str
      cases q with
      | non => cases rq.non
      | bl _ => cases rq.bl
      | int _ => cases rq.int
      | str _ => cases rq.str; rfl
      | lst _ => obtain ⟨a, _, e, _⟩ := rq.lst hs; cases e
      | tup _ => obtain ⟨a, _, e, _⟩ := rq.tup hs; cases e
      | _ => cases bq
    | lst xs =>
      obtain ⟨a, vs, e, h1, l1, _⟩ := rp.lst hs
      subst e
      cases q with
      | non => cases rq.non
      | bl _ => cases rq.bl
      | int _ => cases rq.int
      | str _ => cases rq.str
      | lst ys =>
        obtain ⟨b, us, e, h2, l2, _⟩ := rq.lst hs
        cases e
        rw [h1] at h2
        cases h2
        rw [ih _ _ _ bp bq l1 l2]
      | tup ys =>
        obtain ⟨b, us, e, h2, l2, _⟩ := rq.tup hs
        cases e
        rw [h1] at h2; cases h2
      | _ => cases bq
    | tup xs =>
      obtain ⟨a, vs, e, h1, l1, _⟩ := rp.tup hs
      subst e
      cases q with
      | non => cases rq.non
      | bl _ => cases rq.bl
      | int _ => cases rq.int
      | str _ => cases rq.str
      | lst ys =>
        obtain ⟨b, us, e, h2, l2, _⟩ := rq.lst hs
        cases e
        rw [h1] at h2; cases h2
      | tup ys =>
        obtain ⟨b, us, e, h2, l2, _⟩ := rq.tup hs
        cases e
        rw [h1] at h2
        cases h2
        rw [ih _ _ _ bp bq l1 l2]
      | _ => cases bq
    | _ => cases bp
end
section
variable {X : Cx} {pins : List (Addr × Obj)} {σ : L2.St} {s : Shared} {al : List Addr} {F H : Hp}
theorem range_all {f : Nat → Bool} {n : Nat} : (List.range n).all f = true ↔ ∀ i, i < n → f i = true := by simp [List.all_eq_true]
theorem zip_all {f : D → D → Bool} : ∀ (xs ys : List D), (List.range (min xs.length ys.length)).all (fun j => f (xs.getD j .non) (ys.getD j .non)) = (xs.zip ys).all fun p => f p.1 p.2 := fun xs ys => by
  rw [Bool.eq_iff_iff, range_all, List.all_eq_true]
  constructor
  · intro h p hp
    obtain ⟨i, hi, e⟩ := List.getElem_of_mem hp
    rw [List.getElem_zip] at e
    rw [List.length_zip] at hi
    subst e
    have q := h i hi
    rw [List.getD_eq_getElem?_getD, List.getD_eq_getElem?_getD, List.getElem?_eq_getElem (by omega), List.getElem?_eq_getElem (by omega)] at q
    exact q
  · intro h i hi
    have hz : i < (xs.zip ys).length := by rw [List.length_zip]; exact hi
    have q := h _ (List.getElem_mem hz)
    rw [List.getElem_zip] at q
    rw [List.getD_eq_getElem?_getD, List.getD_eq_getElem?_getD, List.getElem?_eq_getElem (by omega), List.getElem?_eq_getElem (by omega)]
    exact q
theorem eqAt_D (I : Inv X pins σ H s) (hs : Sub F H) : ∀ (n : Nat) (A : Around), A.units + n < cLine → ∀ (p q : D) (x y : V) (u v : Value), bas n p = true → bas n q = true → Rdr X.K al F H p x → Rdr X.K al F H q y → RelV x u → RelV y v → SeqAt.EqAt A s u v (eqb n p q)
  | 0, _, _, _, _, _, _, _, _, h, _, _, _, _, _ => by cases h
  | n + 1, A, hu, p, q, x, y, u, v, bp, bq, rp, rq, ru, rv => by
    have hA : A.units < cLine := by omega
    have hin : A.in1.units + n < cLine := by show A.units + 1 + n < cLine; omega
    have ih := eqAt_D I hs n A.in1 hin
    cases p with
    | non =>
      cases rp.non; cases ru
      cases q with
      | non => cases rq.non; cases rv; exact .same _
      | bl _ => cases rq.bl; cases rv; exact .none_bool _
      | int _ => cases rq.int; obtain ⟨t, rfl⟩ := rv; exact .none_int _ _
      | str _ => cases rq.str; obtain ⟨t, rfl⟩ := rv; exact .none_str _ _
      | lst _ =>
        obtain ⟨a, _, rfl, h, _⟩ := rq.lst hs
        cases rv
        obtain ⟨its, _, pl, _⟩ := I.list (.inl (.inl h))
        exact .none_list pl.isList hA
      | tup _ =>
        obtain ⟨a, _, rfl, h, _⟩ := rq.tup hs
        cases rv
        obtain ⟨its, _, pl, _⟩ := I.tuple (.inl (.inl h))
        exact .none_tuple pl hA
      | _ => cases bq
    | bl b =>
      cases rp.bl; cases ru
      cases q with
      | non => cases rq.non; cases rv; exact .bool_none _
      | bl _ => cases rq.bl; cases rv; exact .bool_bool _ _
      | int _ => cases rq.int; obtain ⟨t, rfl⟩ := rv; exact .bool_int _ _ _
      | str _ => cases rq.str; obtain ⟨t, rfl⟩ := rv; exact .bool_str _ _ _
      | lst _ =>
        obtain ⟨a, _, rfl, h, _⟩ := rq.lst hs
        cases rv
        obtain ⟨its, _, pl, _⟩ := I.list (.inl (.inl h))
        exact .bool_list _ pl.isList hA
      | tup _ =>
        obtain ⟨a, _, rfl, h, _⟩ := rq.tup hs
        cases rv
        obtain ⟨its, _, pl, _⟩ := I.tuple (.inl (.inl h))
        exact .bool_tuple _ pl hA
      | _ => cases bq
    | int b =>
      cases rp.int; obtain ⟨t, rfl⟩ := ru
      cases q with
      | non => cases rq.non; cases rv; exact .int_none _ _
      | bl _ => cases rq.bl; cases rv; exact .int_bool _ _ _
      | int _ => cases rq.int; obtain ⟨t, rfl⟩ := rv; exact .int_int _ _ _ _
      | str _ => cases rq.str; obtain ⟨t, rfl⟩ := rv; exact .int_str _ _ _ _
      | lst _ =>
        obtain ⟨a, _, rfl, h, _⟩ := rq.lst hs
        cases rv
        obtain ⟨its, _, pl, _⟩ := I.list (.inl (.inl h))
        exact .int_list _ _ pl.isList hA
      | tup _ =>
        obtain ⟨a, _, rfl, h, _⟩ := rq.tup hs
        cases rv
        obtain ⟨its, _, pl, _⟩ := I.tuple (.inl (.inl h))
        exact .int_tuple _ _ pl hA
      | _ => cases bq
    | str b =>
      cases rp.str; obtain ⟨t, rfl⟩ := ru
      cases q with
      | non => cases rq.non; cases rv; exact .str_none _ _
      | bl _ => cases rq.bl; cases rv; exact .str_bool _ _ _
      | int _ => cases rq.int; obtain ⟨t, rfl⟩ := rv; exact .str_int _ _ _ _
      | str _ => cases rq.str; obtain ⟨t, rfl⟩ := rv; exact .str_str _ _ _ _
      | lst _ =>
        obtain ⟨a, _, rfl, h, _⟩ := rq.lst hs
        cases rv
        obtain ⟨its, _, pl, _⟩ := I.list (.inl (.inl h))
        exact .str_list _ _ pl.isList hA
      | tup _ =>
        obtain ⟨a, _, rfl, h, _⟩ := rq.tup hs
        cases rv
        obtain ⟨its, _, pl, _⟩ := I.tuple (.inl (.inl h))
        exact .str_tuple _ _ pl hA
      | _ => cases bq
    | lst xs =>
      obtain ⟨a, vs, rfl, h1, l1, z1⟩ := id (rp.lst hs)
      cases ru
      obtain ⟨its, r1, pl, _⟩ := I.list (.inl (.inl h1))
      cases q with
      | non => cases rq.non; cases rv; exact .list_none pl.isList hA
      | bl _ => cases rq.bl; cases rv; exact .list_bool _ pl.isList hA
      | int _ => cases rq.int; obtain ⟨t, rfl⟩ := rv; exact .list_int _ _ pl.isList hA
      | str _ => cases rq.str; obtain ⟨t, rfl⟩ := rv; exact .list_str _ _ pl.isList hA
      | lst ys =>
        obtain ⟨b, us, rfl, h2, l2, z2⟩ := id (rq.lst hs)
        cases rv
        by_cases e : a = b
        · subst e
          have e2 := uniq hs (n + 1) (.lst xs) (.lst ys) _ bp bq rp rq
          rw [← e2, eqb_refl _ _ bp]
          exact .same _
        · obtain ⟨its2, r2, pl2, _⟩ := I.list (.inl (.inl h2))
          have n1 := l1.length
          have n2 := l2.length
          have m1 := r1.length
          have m2 := r2.length
          refine .of_refs e ?_
          by_cases hl : xs.length = ys.length
          · have q := SeqAt.RcAt.lists (e := fun j => eqb n (xs.getD j .non) (ys.getD j .non)) pl.isList pl2.isList (by simp only [List.size_toArray]; omega) hA fun j g1 g2 => ?_
            · have e3 : (List.range its.toArray.size).all (fun j => eqb n (xs.getD j .non) (ys.getD j .non)) = eqb (n + 1) (.lst xs) (.lst ys) := by
                show _ = (xs.length == ys.length && (xs.zip ys).all fun p => eqb n p.1 p.2)
                rw [← zip_all, hl, Nat.min_self, beq_self_eq_true, Bool.true_and, List.size_toArray]
                congr 2
                omega
              rw [e3] at q
              exact q
            · simp only [List.size_toArray] at g1 g2
              have k1 : j < xs.length := by omega
              have k2 : j < ys.length := by omega
              obtain ⟨v1, f1, d1⟩ := l1.getD (List.getElem?_eq_getElem k1)
              obtain ⟨v2, f2, d2⟩ := l2.getD (List.getElem?_eq_getElem k2)
              obtain ⟨u1, q1, w1⟩ := r1.get f1
              obtain ⟨u2, q2, w2⟩ := r2.get f2
              have a1 := List.all_eq_true.mp (show xs.all (bas n) = true from bp) _ (List.getElem_mem k1)
              have a2 := List.all_eq_true.mp (show ys.all (bas n) = true from bq) _ (List.getElem_mem k2)
              have b1 : its.toArray[j] = u1 := by simpa using (List.getElem_eq_iff (h := g1)).mpr q1
              have b2 : its2.toArray[j] = u2 := by simpa using (List.getElem_eq_iff (h := g2)).mpr q2
              rw [b1, b2]
              rw [List.getD_eq_getElem?_getD, List.getD_eq_getElem?_getD, List.getElem?_eq_getElem k1, List.getElem?_eq_getElem k2]
              exact ih _ _ _ _ _ _ a1 a2 (d1.rdr a1) (d2.rdr a2) w1 w2
          · have e3 : eqb (n + 1) (.lst xs) (.lst ys) = false := by
              show (xs.length == ys.length && _) = false
              rw [beq_eq_false_iff_ne.mpr hl, Bool.false_and]
            rw [e3]
            exact .lists_lengths pl.isList pl2.isList (by simp only [List.size_toArray, bne_iff_ne, ne_eq]; omega) hA
      | tup ys =>
        obtain ⟨b, us, rfl, h2, l2, z2⟩ := rq.tup hs
        cases rv
        obtain ⟨its2, r2, pl2, _⟩ := I.tuple (.inl (.inl h2))
        exact .list_tuple pl.isList pl2 hA
      | _ => cases bq
    | tup xs =>
      obtain ⟨a, vs, rfl, h1, l1, z1⟩ := id (rp.tup hs)
      cases ru
      obtain ⟨its, r1, pl, _⟩ := I.tuple (.inl (.inl h1))
      cases q with
      | non => cases rq.non; cases rv; exact .tuple_none pl hA
      | bl _ => cases rq.bl; cases rv; exact .tuple_bool _ pl hA
      | int _ => cases rq.int; obtain ⟨t, rfl⟩ := rv; exact .tuple_int _ _ pl hA
      | str _ => cases rq.str; obtain ⟨t, rfl⟩ := rv; exact .tuple_str _ _ pl hA
      | lst ys =>
        obtain ⟨b, us, rfl, h2, l2, z2⟩ := rq.lst hs
        cases rv
        obtain ⟨its2, r2, pl2, _⟩ := I.list (.inl (.inl h2))
        exact .tuple_list pl pl2.isList hA
      | tup ys =>
        obtain ⟨b, us, rfl, h2, l2, z2⟩ := id (rq.tup hs)
        cases rv
        by_cases e : a = b
        · subst e
          have e2 := uniq hs (n + 1) (.tup xs) (.tup ys) _ bp bq rp rq
          rw [← e2, eqb_refl _ _ bp]
          exact .same _
        · obtain ⟨its2, r2, pl2, _⟩ := I.tuple (.inl (.inl h2))
          have n1 := l1.length
          have n2 := l2.length
          have m1 := r1.length
          have m2 := r2.length
          refine .of_refs e ?_
          have q := SeqAt.RcAt.tuples (e := fun j => eqb n (xs.getD j .non) (ys.getD j .non)) pl pl2 hA fun j g1 g2 => ?_
          · have e3 : ((List.range (min its.toArray.size its2.toArray.size)).all (fun j => eqb n (xs.getD j .non) (ys.getD j .non)) && its.toArray.size == its2.toArray.size) = eqb (n + 1) (.tup xs) (.tup ys) := by
              show _ = (xs.length == ys.length && (xs.zip ys).all fun p => eqb n p.1 p.2)
              rw [← zip_all, Bool.and_comm, List.size_toArray, List.size_toArray, show its.length = xs.length by omega, show its2.length = ys.length by omega]
            rw [e3] at q
            exact q
          · simp only [List.size_toArray] at g1 g2
            have k1 : j < xs.length := by omega
            have k2 : j < ys.length := by omega
            obtain ⟨v1, f1, d1⟩ := l1.getD (List.getElem?_eq_getElem k1)
            obtain ⟨v2, f2, d2⟩ := l2.getD (List.getElem?_eq_getElem k2)
            obtain ⟨u1, q1, w1⟩ := r1.get f1
            obtain ⟨u2, q2, w2⟩ := r2.get f2
            have a1 := List.all_eq_true.mp (show xs.all (bas n) = true from bp) _ (List.getElem_mem k1)
            have a2 := List.all_eq_true.mp (show ys.all (bas n) = true from bq) _ (List.getElem_mem k2)
            have b1 : its.toArray[j] = u1 := by simpa using (List.getElem_eq_iff (h := g1)).mpr q1
            have b2 : its2.toArray[j] = u2 := by simpa using (List.getElem_eq_iff (h := g2)).mpr q2
            rw [b1, b2]
            rw [List.getD_eq_getElem?_getD, List.getD_eq_getElem?_getD, List.getElem?_eq_getElem k1, List.getElem?_eq_getElem k2]
            exact ih _ _ _ _ _ _ a1 a2 (d1.rdr a1) (d2.rdr a2) w1 w2
      | _ => cases bq
    | _ => cases bp
end
end VI
end
section
set_option Elab.async false
set_option linter.all false
set_option maxRecDepth 100000
set_option maxHeartbeats 2000000
/-! V5b: == and != as operators, in and not in. (rcAt_D, rcNeAt_D are printed by gen_v5b.py out of eqAt_D.) -/
namespace VI
open PySem PySem.Spec L2
section
variable {X : Cx} {pins : List (Addr × Obj)} {σ : L2.St} {s : Shared} {al : List Addr} {F H : Hp}
theorem rcAt_D (I : Inv X pins σ H s) (hs : Sub F H) : ∀ (n : Nat) (A : Around), A.units + n < cLine → ∀ (p q : D) (x y : V) (u v : Value), bas n p = true → bas n q = true → Rdr X.K al F H p x → Rdr X.K al F H q y → RelV x u → RelV y v → SeqAt.RcAt A s u v (eqb n p q)
  | 0, _, _, _, _, _, _, _, _, h, _, _, _, _, _ => by cases h
  | n + 1, A, hu, p, q, x, y, u, v, bp, bq, rp, rq, ru, rv => by
    have hA : A.units < cLine := by omega
    have hin : A.in1.units + n < cLine := by show A.units + 1 + n < cLine; omega
    have ih := eqAt_D (al := al) (F := F) I hs n A.in1 hin
    cases p with
    | non =>
      cases rp.non; cases ru
      cases q with
      | non => cases rq.non; cases rv; exact .none_none
      | bl _ => cases rq.bl; cases rv; exact .none_bool _
      | int _ => cases rq.int; obtain ⟨t, rfl⟩ := rv; exact .none_int _ _
      | str _ => cases rq.str; obtain ⟨t, rfl⟩ := rv; exact .none_str _ _
      | lst _ =>
        obtain ⟨a, _, rfl, h, _⟩ := rq.lst hs
        cases rv
        obtain ⟨its, _, pl, _⟩ := I.list (.inl (.inl h))
        exact .none_list pl.isList hA
      | tup _ =>
        obtain ⟨a, _, rfl, h, _⟩ := rq.tup hs
        cases rv
        obtain ⟨its, _, pl, _⟩ := I.tuple (.inl (.inl h))
        exact .none_tuple pl hA
      | _ => cases bq
    | bl b =>
      cases rp.bl; cases ru
      cases q with
      | non => cases rq.non; cases rv; exact .bool_none _
      | bl _ => cases rq.bl; cases rv; exact .bool_bool _ _
      | int _ => cases rq.int; obtain ⟨t, rfl⟩ := rv; exact .bool_int _ _ _
      | str _ => cases rq.str; obtain ⟨t, rfl⟩ := rv; exact .bool_str _ _ _
      | lst _ =>
        obtain ⟨a, _, rfl, h, _⟩ := rq.lst hs
        cases rv
        obtain ⟨its, _, pl, _⟩ := I.list (.inl (.inl h))
        exact .bool_list _ pl.isList hA
      | tup _ =>
        obtain ⟨a, _, rfl, h, _⟩ := rq.tup hs
        cases rv
        obtain ⟨its, _, pl, _⟩ := I.tuple (.inl (.inl h))
        exact .bool_tuple _ pl hA
      | _ => cases bq
    | int b =>
      cases rp.int; obtain ⟨t, rfl⟩ := ru
      cases q with
      | non => cases rq.non; cases rv; exact .int_none _ _
      | bl _ => cases rq.bl; cases rv; exact .int_bool _ _ _
      | int _ => cases rq.int; obtain ⟨t, rfl⟩ := rv; exact .int_int _ _ _ _
      | str _ => cases rq.str; obtain ⟨t, rfl⟩ := rv; exact .int_str _ _ _ _
      | lst _ =>
        obtain ⟨a, _, rfl, h, _⟩ := rq.lst hs
        cases rv
        obtain ⟨its, _, pl, _⟩ := I.list (.inl (.inl h))
        exact .int_list _ _ pl.isList hA
      | tup _ =>
        obtain ⟨a, _, rfl, h, _⟩ := rq.tup hs
        cases rv
        obtain ⟨its, _, pl, _⟩ := I.tuple (.inl (.inl h))
        exact .int_tuple _ _ pl hA
      | _ => cases bq
    | str b =>
      cases rp.str; obtain ⟨t, rfl⟩ := ru
      cases q with
      | non => cases rq.non; cases rv; exact .str_none _ _
      | bl _ => cases rq.bl; cases rv; exact .str_bool _ _ _
      | int _ => cases rq.int; obtain ⟨t, rfl⟩ := rv; exact .str_int _ _ _ _
      | str _ => cases rq.str; obtain ⟨t, rfl⟩ := rv; exact .str_str _ _ _ _
      | lst _ =>
        obtain ⟨a, _, rfl, h, _⟩ := rq.lst hs
        cases rv
        obtain ⟨its, _, pl, _⟩ := I.list (.inl (.inl h))
        exact .str_list _ _ pl.isList hA
      | tup _ =>
        obtain ⟨a, _, rfl, h, _⟩ := rq.tup hs
        cases rv
        obtain ⟨its, _, pl, _⟩ := I.tuple (.inl (.inl h))
        exact .str_tuple _ _ pl hA
      | _ => cases bq
    | lst xs =>
      obtain ⟨a, vs, rfl, h1, l1, z1⟩ := id (rp.lst hs)
      cases ru
      obtain ⟨its, r1, pl, _⟩ := I.list (.inl (.inl h1))
      cases q with
      | non => cases rq.non; cases rv; exact .list_none pl.isList hA
      | bl _ => cases rq.bl; cases rv; exact .list_bool _ pl.isList hA
      | int _ => cases rq.int; obtain ⟨t, rfl⟩ := rv; exact .list_int _ _ pl.isList hA
      | str _ => cases rq.str; obtain ⟨t, rfl⟩ := rv; exact .list_str _ _ pl.isList hA
      | lst ys =>
        obtain ⟨b, us, rfl, h2, l2, z2⟩ := id (rq.lst hs)
        cases rv
        obtain ⟨its2, r2, pl2, _⟩ := I.list (.inl (.inl h2))
        have n1 := l1.length
        have n2 := l2.length
        have m1 := r1.length
        have m2 := r2.length
        by_cases hl : xs.length = ys.length
        · have q := SeqAt.RcAt.lists (e := fun j => eqb n (xs.getD j .non) (ys.getD j .non)) pl.isList pl2.isList (by simp only [List.size_toArray]; omega) hA fun j g1 g2 => ?_
          · have e3 : (List.range its.toArray.size).all (fun j => eqb n (xs.getD j .non) (ys.getD j .non)) = eqb (n + 1) (.lst xs) (.lst ys) := by
              show _ = (xs.length == ys.length && (xs.zip ys).all fun p => eqb n p.1 p.2)
              rw [← zip_all, hl, Nat.min_self, beq_self_eq_true, Bool.true_and, List.size_toArray]
              congr 2
              omega
            rw [e3] at q
            exact q
          · simp only [List.size_toArray] at g1 g2
            have k1 : j < xs.length := by omega
            have k2 : j < ys.length := by omega
            obtain ⟨v1, f1, d1⟩ := l1.getD (List.getElem?_eq_getElem k1)
            obtain ⟨v2, f2, d2⟩ := l2.getD (List.getElem?_eq_getElem k2)
            obtain ⟨u1, q1, w1⟩ := r1.get f1
            obtain ⟨u2, q2, w2⟩ := r2.get f2
            have a1 := List.all_eq_true.mp (show xs.all (bas n) = true from bp) _ (List.getElem_mem k1)
            have a2 := List.all_eq_true.mp (show ys.all (bas n) = true from bq) _ (List.getElem_mem k2)
            have b1 : its.toArray[j] = u1 := by simpa using (List.getElem_eq_iff (h := g1)).mpr q1
            have b2 : its2.toArray[j] = u2 := by simpa using (List.getElem_eq_iff (h := g2)).mpr q2
            rw [b1, b2]
            rw [List.getD_eq_getElem?_getD, List.getD_eq_getElem?_getD, List.getElem?_eq_getElem k1, List.getElem?_eq_getElem k2]
            exact ih _ _ _ _ _ _ a1 a2 (d1.rdr a1) (d2.rdr a2) w1 w2
        · have e3 : eqb (n + 1) (.lst xs) (.lst ys) = false := by
            show (xs.length == ys.length && _) = false
            rw [beq_eq_false_iff_ne.mpr hl, Bool.false_and]
          rw [e3]
          exact .lists_lengths pl.isList pl2.isList (by simp only [List.size_toArray, bne_iff_ne, ne_eq]; omega) hA
      | tup ys =>
        obtain ⟨b, us, rfl, h2, l2, z2⟩ := rq.tup hs
        cases rv
        obtain ⟨its2, r2, pl2, _⟩ := I.tuple (.inl (.inl h2))
        exact .list_tuple pl.isList pl2 hA
      | _ => cases bq
    | tup xs =>
      obtain ⟨a, vs, rfl, h1, l1, z1⟩ := id (rp.tup hs)
      cases ru
      obtain ⟨its, r1, pl, _⟩ := I.tuple (.inl (.inl h1))
      cases q with
      | non => cases rq.non; cases rv; exact .tuple_none pl hA
      | bl _ => cases rq.bl; cases rv; exact .tuple_bool _ pl hA
      | int _ => cases rq.int; obtain ⟨t, rfl⟩ := rv; exact .tuple_int _ _ pl hA
      | str _ => cases rq.str; obtain ⟨t, rfl⟩ := rv; exact .tuple_str _ _ pl hA
      | lst ys =>
        obtain ⟨b, us, rfl, h2, l2, z2⟩ := rq.lst hs
        cases rv
        obtain ⟨its2, r2, pl2, _⟩ := I.list (.inl (.inl h2))
        exact .tuple_list pl pl2.isList hA
      | tup ys =>
        obtain ⟨b, us, rfl, h2, l2, z2⟩ := id (rq.tup hs)
        cases rv
        obtain ⟨its2, r2, pl2, _⟩ := I.tuple (.inl (.inl h2))
        have n1 := l1.length
        have n2 := l2.length
        have m1 := r1.length
        have m2 := r2.length
        have q := SeqAt.RcAt.tuples (e := fun j => eqb n (xs.getD j .non) (ys.getD j .non)) pl pl2 hA fun j g1 g2 => ?_
        · have e3 : ((List.range (min its.toArray.size its2.toArray.size)).all (fun j => eqb n (xs.getD j .non) (ys.getD j .non)) && its.toArray.size == its2.toArray.size) = eqb (n + 1) (.tup xs) (.tup ys) := by
            show _ = (xs.length == ys.length && (xs.zip ys).all fun p => eqb n p.1 p.2)
            rw [← zip_all, Bool.and_comm, List.size_toArray, List.size_toArray, show its.length = xs.length by omega, show its2.length = ys.length by omega]
          rw [e3] at q
          exact q
        · simp only [List.size_toArray] at g1 g2
          have k1 : j < xs.length := by omega
          have k2 : j < ys.length := by omega
          obtain ⟨v1, f1, d1⟩ := l1.getD (List.getElem?_eq_getElem k1)
          obtain ⟨v2, f2, d2⟩ := l2.getD (List.getElem?_eq_getElem k2)
          obtain ⟨u1, q1, w1⟩ := r1.get f1
          obtain ⟨u2, q2, w2⟩ := r2.get f2
          have a1 := List.all_eq_true.mp (show xs.all (bas n) = true from bp) _ (List.getElem_mem k1)
          have a2 := List.all_eq_true.mp (show ys.all (bas n) = true from bq) _ (List.getElem_mem k2)
          have b1 : its.toArray[j] = u1 := by simpa using (List.getElem_eq_iff (h := g1)).mpr q1
          have b2 : its2.toArray[j] = u2 := by simpa using (List.getElem_eq_iff (h := g2)).mpr q2
          rw [b1, b2]
          rw [List.getD_eq_getElem?_getD, List.getD_eq_getElem?_getD, List.getElem?_eq_getElem k1, List.getElem?_eq_getElem k2]
          exact ih _ _ _ _ _ _ a1 a2 (d1.rdr a1) (d2.rdr a2) w1 w2
      | _ => cases bq
    | _ => cases bp
theorem rcNeAt_D (I : Inv X pins σ H s) (hs : Sub F H) : ∀ (n : Nat) (A : Around), A.units + n < cLine → ∀ (p q : D) (x y : V) (u v : Value), bas n p = true → bas n q = true → Rdr X.K al F H p x → Rdr X.K al F H q y → RelV x u → RelV y v → SeqAt.RcNeAt A s u v (!eqb n p q)
  | 0, _, _, _, _, _, _, _, _, h, _, _, _, _, _ => by cases h
  | n + 1, A, hu, p, q, x, y, u, v, bp, bq, rp, rq, ru, rv => by
    have hA : A.units < cLine := by omega
    have hin : A.in1.units + n < cLine := by show A.units + 1 + n < cLine; omega
    have ih := eqAt_D (al := al) (F := F) I hs n A.in1 hin
    cases p with
    | non =>
      cases rp.non; cases ru
      cases q with
      | non => cases rq.non; cases rv; exact .none_none
      | bl _ => cases rq.bl; cases rv; exact .none_bool _
      | int _ => cases rq.int; obtain ⟨t, rfl⟩ := rv; exact .none_int _ _
      | str _ => cases rq.str; obtain ⟨t, rfl⟩ := rv; exact .none_str _ _
      | lst _ =>
        obtain ⟨a, _, rfl, h, _⟩ := rq.lst hs
        cases rv
        obtain ⟨its, _, pl, _⟩ := I.list (.inl (.inl h))
        exact .none_list pl.isList hA
      | tup _ =>
        obtain ⟨a, _, rfl, h, _⟩ := rq.tup hs
        cases rv
        obtain ⟨its, _, pl, _⟩ := I.tuple (.inl (.inl h))
        exact .none_tuple pl hA
      | _ => cases bq
    | bl b =>
      cases rp.bl; cases ru
      cases q with
      | non => cases rq.non; cases rv; exact .bool_none _
      | bl _ => cases rq.bl; cases rv; exact .bool_bool _ _
      | int _ => cases rq.int; obtain ⟨t, rfl⟩ := rv; exact .bool_int _ _ _
      | str _ => cases rq.str; obtain ⟨t, rfl⟩ := rv; exact .bool_str _ _ _
      | lst _ =>
        obtain ⟨a, _, rfl, h, _⟩ := rq.lst hs
        cases rv
        obtain ⟨its, _, pl, _⟩ := I.list (.inl (.inl h))
        exact .bool_list _ pl.isList hA
      | tup _ =>
        obtain ⟨a, _, rfl, h, _⟩ := rq.tup hs
        cases rv
        obtain ⟨its, _, pl, _⟩ := I.tuple (.inl (.inl h))
        exact .bool_tuple _ pl hA
      | _ => cases bq
    | int b =>
      cases rp.int; obtain ⟨t, rfl⟩ := ru
      cases q with
      | non => cases rq.non; cases rv; exact .int_none _ _
      | bl _ => cases rq.bl; cases rv; exact .int_bool _ _ _
      | int _ => cases rq.int; obtain ⟨t, rfl⟩ := rv; exact .int_int _ _ _ _
      | str _ => cases rq.str; obtain ⟨t, rfl⟩ := rv; exact .int_str _ _ _ _
      | lst _ =>
        obtain ⟨a, _, rfl, h, _⟩ := rq.lst hs
        cases rv
        obtain ⟨its, _, pl, _⟩ := I.list (.inl (.inl h))
        exact .int_list _ _ pl.isList hA
      | tup _ =>
        obtain ⟨a, _, rfl, h, _⟩ := rq.tup hs
        cases rv
        obtain ⟨its, _, pl, _⟩ := I.tuple (.inl (.inl h))
        exact .int_tuple _ _ pl hA
      | _ => cases bq
    | str b =>
      cases rp.str; obtain ⟨t, rfl⟩ := ru
      cases q with
      | non => cases rq.non; cases rv; exact .str_none _ _
      | bl _ => cases rq.bl; cases rv; exact .str_bool _ _ _
      | int _ => cases rq.int; obtain ⟨t, rfl⟩ := rv; exact .str_int _ _ _ _
      | str _ => cases rq.str; obtain ⟨t, rfl⟩ := rv; exact .str_str _ _ _ _
      | lst _ =>
        obtain ⟨a, _, rfl, h, _⟩ := rq.lst hs
        cases rv
        obtain ⟨its, _, pl, _⟩ := I.list (.inl (.inl h))
        exact .str_list _ _ pl.isList hA
      | tup _ =>
        obtain ⟨a, _, rfl, h, _⟩ := rq.tup hs
        cases rv
        obtain ⟨its, _, pl, _⟩ := I.tuple (.inl (.inl h))
        exact .str_tuple _ _ pl hA
      | _ => cases bq
    | lst xs =>
      obtain ⟨a, vs, rfl, h1, l1, z1⟩ := id (rp.lst hs)
      cases ru
      obtain ⟨its, r1, pl, _⟩ := I.list (.inl (.inl h1))
      cases q with
      | non => cases rq.non; cases rv; exact .list_none pl.isList hA
      | bl _ => cases rq.bl; cases rv; exact .list_bool _ pl.isList hA
      | int _ => cases rq.int; obtain ⟨t, rfl⟩ := rv; exact .list_int _ _ pl.isList hA
      | str _ => cases rq.str; obtain ⟨t, rfl⟩ := rv; exact .list_str _ _ pl.isList hA
      | lst ys =>
        obtain ⟨b, us, rfl, h2, l2, z2⟩ := id (rq.lst hs)
        cases rv
        obtain ⟨its2, r2, pl2, _⟩ := I.list (.inl (.inl h2))
        have n1 := l1.length
        have n2 := l2.length
        have m1 := r1.length
        have m2 := r2.length
        by_cases hl : xs.length = ys.length
        · have q := SeqAt.RcNeAt.lists (e := fun j => eqb n (xs.getD j .non) (ys.getD j .non)) pl.isList pl2.isList (by simp only [List.size_toArray]; omega) hA fun j g1 g2 => ?_
          · have e3 : (List.range its.toArray.size).all (fun j => eqb n (xs.getD j .non) (ys.getD j .non)) = eqb (n + 1) (.lst xs) (.lst ys) := by
              show _ = (xs.length == ys.length && (xs.zip ys).all fun p => eqb n p.1 p.2)
              rw [← zip_all, hl, Nat.min_self, beq_self_eq_true, Bool.true_and, List.size_toArray]
              congr 2
              omega
            rw [e3] at q
            exact q
          · simp only [List.size_toArray] at g1 g2
            have k1 : j < xs.length := by omega
            have k2 : j < ys.length := by omega
            obtain ⟨v1, f1, d1⟩ := l1.getD (List.getElem?_eq_getElem k1)
            obtain ⟨v2, f2, d2⟩ := l2.getD (List.getElem?_eq_getElem k2)
            obtain ⟨u1, q1, w1⟩ := r1.get f1
            obtain ⟨u2, q2, w2⟩ := r2.get f2
            have a1 := List.all_eq_true.mp (show xs.all (bas n) = true from bp) _ (List.getElem_mem k1)
            have a2 := List.all_eq_true.mp (show ys.all (bas n) = true from bq) _ (List.getElem_mem k2)
            have b1 : its.toArray[j] = u1 := by simpa using (List.getElem_eq_iff (h := g1)).mpr q1
            have b2 : its2.toArray[j] = u2 := by simpa using (List.getElem_eq_iff (h := g2)).mpr q2
            rw [b1, b2]
            rw [List.getD_eq_getElem?_getD, List.getD_eq_getElem?_getD, List.getElem?_eq_getElem k1, List.getElem?_eq_getElem k2]
            exact ih _ _ _ _ _ _ a1 a2 (d1.rdr a1) (d2.rdr a2) w1 w2
        · have e3 : eqb (n + 1) (.lst xs) (.lst ys) = false := by
            show (xs.length == ys.length && _) = false
            rw [beq_eq_false_iff_ne.mpr hl, Bool.false_and]
          rw [e3]
          exact .lists_lengths pl.isList pl2.isList (by simp only [List.size_toArray, bne_iff_ne, ne_eq]; omega) hA
      | tup ys =>
        obtain ⟨b, us, rfl, h2, l2, z2⟩ := rq.tup hs
        cases rv
        obtain ⟨its2, r2, pl2, _⟩ := I.tuple (.inl (.inl h2))
        exact .list_tuple pl.isList pl2 hA
      | _ => cases bq
    | tup xs =>
      obtain ⟨a, vs, rfl, h1, l1, z1⟩ := id (rp.tup hs)
      cases ru
      obtain ⟨its, r1, pl, _⟩ := I.tuple (.inl (.inl h1))
      cases q with
      | non => cases rq.non; cases rv; exact .tuple_none pl hA
      | bl _ => cases rq.bl; cases rv; exact .tuple_bool _ pl hA
      | int _ => cases rq.int; obtain ⟨t, rfl⟩ := rv; exact .tuple_int _ _ pl hA
      | str _ => cases rq.str; obtain ⟨t, rfl⟩ := rv; exact .tuple_str _ _ pl hA
      | lst ys =>
        obtain ⟨b, us, rfl, h2, l2, z2⟩ := rq.lst hs
        cases rv
        obtain ⟨its2, r2, pl2, _⟩ := I.list (.inl (.inl h2))
        exact .tuple_list pl pl2.isList hA
      | tup ys =>
        obtain ⟨b, us, rfl, h2, l2, z2⟩ := id (rq.tup hs)
        cases rv
        obtain ⟨its2, r2, pl2, _⟩ := I.tuple (.inl (.inl h2))
        have n1 := l1.length
        have n2 := l2.length
        have m1 := r1.length
        have m2 := r2.length
        have q := SeqAt.RcNeAt.tuples (e := fun j => eqb n (xs.getD j .non) (ys.getD j .non)) pl pl2 hA fun j g1 g2 => ?_
        · have e3 : ((List.range (min its.toArray.size its2.toArray.size)).all (fun j => eqb n (xs.getD j .non) (ys.getD j .non)) && its.toArray.size == its2.toArray.size) = eqb (n + 1) (.tup xs) (.tup ys) := by
            show _ = (xs.length == ys.length && (xs.zip ys).all fun p => eqb n p.1 p.2)
            rw [← zip_all, Bool.and_comm, List.size_toArray, List.size_toArray, show its.length = xs.length by omega, show its2.length = ys.length by omega]
          rw [e3] at q
          exact q
        · simp only [List.size_toArray] at g1 g2
          have k1 : j < xs.length := by omega
          have k2 : j < ys.length := by omega
          obtain ⟨v1, f1, d1⟩ := l1.getD (List.getElem?_eq_getElem k1)
          obtain ⟨v2, f2, d2⟩ := l2.getD (List.getElem?_eq_getElem k2)
          obtain ⟨u1, q1, w1⟩ := r1.get f1
          obtain ⟨u2, q2, w2⟩ := r2.get f2
          have a1 := List.all_eq_true.mp (show xs.all (bas n) = true from bp) _ (List.getElem_mem k1)
          have a2 := List.all_eq_true.mp (show ys.all (bas n) = true from bq) _ (List.getElem_mem k2)
          have b1 : its.toArray[j] = u1 := by simpa using (List.getElem_eq_iff (h := g1)).mpr q1
          have b2 : its2.toArray[j] = u2 := by simpa using (List.getElem_eq_iff (h := g2)).mpr q2
          rw [b1, b2]
          rw [List.getD_eq_getElem?_getD, List.getD_eq_getElem?_getD, List.getElem?_eq_getElem k1, List.getElem?_eq_getElem k2]
          exact ih _ _ _ _ _ _ a1 a2 (d1.rdr a1) (d2.rdr a2) w1 w2
      | _ => cases bq
    | _ => cases bp
end
/-! ### the operators -/
def fEq (p q : D) : Option Va := if bas 8 p && bas 8 q then some (.im (.bl (eqb 8 p q))) else none
def fNe (p q : D) : Option Va := if bas 8 p && bas 8 q then some (.im (.bl (!eqb 8 p q))) else none
def rEqv (K : PySem.W.Frag) (neg : Bool) : R2 := fun x y H Q => ∃ al F p q, Sub F H ∧ bas 8 p = true ∧ bas 8 q = true ∧ Rdr K al F H p x ∧ Rdr K al F H q y ∧ Q (.bl (if neg then !eqb 8 p q else eqb 8 p q)) H
section
variable {X : Cx} {K : PySem.W.Frag}
theorem op_eqv (hu : X.A.units + 64 < cLine) : OpR X (compareOp .Eq) (rEqv X.K false) := by
  intro pins s σ H x y v u Q I rx ry h
  obtain ⟨al, F, p, q, hs, b1, b2, d1, d2, hq⟩ := h
  exact rcAt_D I hs 8 X.A (by omega) p q x y v u b1 b2 d1 d2 rx ry X.prog X.w X.xe _ ⟨.bl _, H, I, rfl, hq⟩
theorem op_nev (hu : X.A.units + 64 < cLine) : OpR X (compareOp .NotEq) (rEqv X.K true) := by
  intro pins s σ H x y v u Q I rx ry h
  obtain ⟨al, F, p, q, hs, b1, b2, d1, d2, hq⟩ := h
  exact rcNeAt_D I hs 8 X.A (by omega) p q x y v u b1 b2 d1 d2 rx ry X.prog X.w X.xe _ ⟨.bl _, H, I, rfl, hq⟩
theorem ops_eq : OpS K (rEqv K false) fEq := fun E F al H σ s x y p q va rel rx ry e Q hQ => by
  unfold fEq at e
  split at e
  · rename_i hb
    rw [Bool.and_eq_true] at hb
    cases e
    exact ⟨al, F, p, q, rel.sub, hb.1, hb.2, rx, ry, fin_d rel (.bl _) hQ⟩
  · cases e
theorem ops_ne : OpS K (rEqv K true) fNe := fun E F al H σ s x y p q va rel rx ry e Q hQ => by
  unfold fNe at e
  split at e
  · rename_i hb
    rw [Bool.and_eq_true] at hb
    cases e
    exact ⟨al, F, p, q, rel.sub, hb.1, hb.2, rx, ry, fin_d rel (.bl _) hQ⟩
  · cases e

/-! ### in -/
/-- what is told of an item by its value -/
noncomputable def eOf (us : List Value) (f : Nat → Bool) (u : Value) : Bool := @decide (∃ j, us[j]? = some u ∧ f j = true) (Classical.propDecidable _)
theorem eOf_eq {us : List Value} {f : Nat → Bool} (h : ∀ i j u, us[i]? = some u → us[j]? = some u → f i = f j) {i : Nat} {u : Value} (hi : us[i]? = some u) : eOf us f u = f i := by
  unfold eOf
  cases e : f i with
  | true => exact @decide_eq_true _ (Classical.propDecidable _) ⟨i, hi, e⟩
  | false =>
    refine @decide_eq_false _ (Classical.propDecidable _) fun ⟨j, hj, hf⟩ => ?_
    rw [h i j u hi hj, hf] at e
    cases e
theorem eOf_any {us : List Value} {f : Nat → Bool} (h : ∀ i j u, us[i]? = some u → us[j]? = some u → f i = f j) : us.any (eOf us f) = (List.range us.length).any f := by
  rw [Bool.eq_iff_iff, List.any_eq_true, List.any_eq_true]
  constructor
  · rintro ⟨u, hu, hf⟩
    obtain ⟨i, hi, e⟩ := List.getElem_of_mem hu
    have q : us[i]? = some u := by rw [List.getElem?_eq_getElem hi, e]
    rw [eOf_eq h q] at hf
    exact ⟨i, List.mem_range.mpr hi, hf⟩
  · rintro ⟨i, hi, hf⟩
    have hi := List.mem_range.mp hi
    refine ⟨us[i], List.getElem_mem _, ?_⟩
    rw [eOf_eq h (List.getElem?_eq_getElem hi)]
    exact hf
theorem range_any {f : D → Bool} : ∀ (xs : List D), (List.range xs.length).any (fun j => f (xs.getD j .non)) = xs.any f := fun xs => by
  rw [Bool.eq_iff_iff, List.any_eq_true, List.any_eq_true]
  constructor
  · rintro ⟨i, hi, hf⟩
    have hi := List.mem_range.mp hi
    rw [List.getD_eq_getElem?_getD, List.getElem?_eq_getElem hi] at hf
    exact ⟨_, List.getElem_mem hi, hf⟩
  · rintro ⟨x, hx, hf⟩
    obtain ⟨i, hi, e⟩ := List.getElem_of_mem hx
    refine ⟨i, List.mem_range.mpr hi, ?_⟩
    rw [List.getD_eq_getElem?_getD, List.getElem?_eq_getElem hi]
    show f xs[i] = true
    rw [e]; exact hf
/-- p in a list or a tuple -/
def inL (p : D) (xs : List D) : Bool := xs.any fun y => eqb 8 y p
def rInv (K : PySem.W.Frag) (neg : Bool) : R2 := fun x y H Q => ∃ al F p q xs, Sub F H ∧ bas 8 p = true ∧ xs.all (bas 8) = true ∧ (q = .lst xs ∨ q = .tup xs ∨ q = .tz xs) ∧ Rdr K al F H p x ∧ Rdr K al F H q y ∧ Q (.bl (if neg then !inL p xs else inL p xs)) H
section
variable {pins : List (Addr × Obj)} {σ : L2.St} {s : Shared} {al : List Addr} {F H : Hp}
theorem in_items (hu : X.A.units + 64 < cLine) (I : Inv X pins σ H s) (hs : Sub F H) {p : D} {x : V} {v : Value} {xs : List D} {vs : List V} {its : List Value} (bp : bas 8 p = true) (bx : xs.all (bas 8) = true) (rp : Rdr X.K al F H p x) (rx : RelV x v) (l : DatL X.K al F xs vs) (r : Vals vs its) :
    ∃ e : Value → Bool, (∀ y ∈ its, SeqAt.EqAt X.A.in1 s y v (e y)) ∧ its.any e = inL p xs := by
  have n1 := l.length
  have n2 := r.length
  have h : ∀ i j u, its[i]? = some u → its[j]? = some u → (fun j => eqb 8 (xs.getD j .non) p) i = (fun j => eqb 8 (xs.getD j .non) p) j := fun i j u hi hj => by
    have k1 : i < xs.length := by have := (List.getElem?_eq_some_iff.mp hi).1; omega
    have k2 : j < xs.length := by have := (List.getElem?_eq_some_iff.mp hj).1; omega
    obtain ⟨v1, f1, d1⟩ := l.getD (List.getElem?_eq_getElem k1)
    obtain ⟨v2, f2, d2⟩ := l.getD (List.getElem?_eq_getElem k2)
    obtain ⟨u1, q1, w1⟩ := r.get f1
    obtain ⟨u2, q2, w2⟩ := r.get f2
    rw [hi] at q1
    rw [hj] at q2
    cases q1; cases q2
    have e := w1.inj w2
    subst e
    have a1 := List.all_eq_true.mp bx _ (List.getElem_mem k1)
    have a2 := List.all_eq_true.mp bx _ (List.getElem_mem k2)
    have e2 := uniq hs 8 _ _ _ a1 a2 (d1.rdr a1) (d2.rdr a2)
    show eqb 8 (xs.getD i .non) p = eqb 8 (xs.getD j .non) p
    rw [List.getD_eq_getElem?_getD, List.getD_eq_getElem?_getD, List.getElem?_eq_getElem k1, List.getElem?_eq_getElem k2]
    show eqb 8 xs[i] p = eqb 8 xs[j] p
    rw [e2]
  refine ⟨eOf its fun j => eqb 8 (xs.getD j .non) p, fun y hy => ?_, ?_⟩
  · obtain ⟨i, hi, e⟩ := List.getElem_of_mem hy
    have q : its[i]? = some y := by rw [List.getElem?_eq_getElem hi, e]
    rw [eOf_eq h q]
    have k1 : i < xs.length := by omega
    obtain ⟨v1, f1, d1⟩ := l.getD (List.getElem?_eq_getElem k1)
    obtain ⟨u1, q1, w1⟩ := r.get f1
    rw [q] at q1
    cases q1
    have a1 := List.all_eq_true.mp bx _ (List.getElem_mem k1)
    rw [List.getD_eq_getElem?_getD, List.getElem?_eq_getElem k1]
    exact eqAt_D I hs 8 X.A.in1 (by show X.A.units + 1 + 8 < cLine; omega) _ _ _ _ _ _ a1 bp (d1.rdr a1) rp w1 rx
  · rw [eOf_any h, ← n2, ← n1]
    exact range_any (f := fun y => eqb 8 y p) xs
end
theorem op_inv (hu : X.A.units + 64 < cLine) : OpR X (compareOp .In) (rInv X.K false) := by
  intro pins s σ H x y v u Q I rx ry h
  obtain ⟨al, F, p, q, xs, hs, b1, b2, hq, d1, d2, hQ⟩ := h
  rcases hq with rfl | rfl | rfl
  · obtain ⟨a, vs, rfl, h1, l1, z⟩ := d2.lst hs
    cases ry
    obtain ⟨its, r, pl, hz⟩ := I.list (.inl (.inl h1))
    obtain ⟨e, he, ea⟩ := in_items hu I hs b1 b2 d1 rx l1 r
    refine SeqAt.in_listAt e pl.isList (fun w hw => he w (by simpa using hw)) ⟨.bl _, H, I, rfl, ?_⟩
    rw [show its.toArray.any e = its.any e by simp, ea]
    exact hQ
  · obtain ⟨a, vs, rfl, h1, l1, z⟩ := d2.tup hs
    cases ry
    obtain ⟨its, r, pl, hz⟩ := I.tuple (.inl (.inl h1))
    obtain ⟨e, he, ea⟩ := in_items hu I hs b1 b2 d1 rx l1 r
    refine SeqAt.in_tupleAt e pl (fun w hw => he w (by simpa using hw)) ⟨.bl _, H, I, rfl, ?_⟩
    rw [show its.toArray.any e = its.any e by simp, ea]
    exact hQ
  · obtain ⟨a, vs, rfl, h1, l1, z⟩ := d2.tz hs
    cases ry
    obtain ⟨its, r, pl, hz⟩ := I.tuple h1
    obtain ⟨e, he, ea⟩ := in_items hu I hs b1 b2 d1 rx l1 r
    refine SeqAt.in_tupleAt e pl (fun w hw => he w (by simpa using hw)) ⟨.bl _, H, I, rfl, ?_⟩
    rw [show its.toArray.any e = its.any e by simp, ea]
    exact hQ
theorem op_notInv (hu : X.A.units + 64 < cLine) : OpR X (compareOp .NotIn) (rInv X.K true) := by
  intro pins s σ H x y v u Q I rx ry h
  obtain ⟨al, F, p, q, xs, hs, b1, b2, hq, d1, d2, hQ⟩ := h
  rcases hq with rfl | rfl | rfl
  · obtain ⟨a, vs, rfl, h1, l1, z⟩ := d2.lst hs
    cases ry
    obtain ⟨its, r, pl, hz⟩ := I.list (.inl (.inl h1))
    obtain ⟨e, he, ea⟩ := in_items hu I hs b1 b2 d1 rx l1 r
    refine SeqAt.notIn_listAt e pl.isList (fun w hw => he w (by simpa using hw)) ⟨.bl _, H, I, rfl, ?_⟩
    rw [show its.toArray.any e = its.any e by simp, ea]
    exact hQ
  · obtain ⟨a, vs, rfl, h1, l1, z⟩ := d2.tup hs
    cases ry
    obtain ⟨its, r, pl, hz⟩ := I.tuple (.inl (.inl h1))
    obtain ⟨e, he, ea⟩ := in_items hu I hs b1 b2 d1 rx l1 r
    refine SeqAt.notIn_tupleAt e pl (fun w hw => he w (by simpa using hw)) ⟨.bl _, H, I, rfl, ?_⟩
    rw [show its.toArray.any e = its.any e by simp, ea]
    exact hQ
  · obtain ⟨a, vs, rfl, h1, l1, z⟩ := d2.tz hs
    cases ry
    obtain ⟨its, r, pl, hz⟩ := I.tuple h1
    obtain ⟨e, he, ea⟩ := in_items hu I hs b1 b2 d1 rx l1 r
    refine SeqAt.notIn_tupleAt e pl (fun w hw => he w (by simpa using hw)) ⟨.bl _, H, I, rfl, ?_⟩
    rw [show its.toArray.any e = its.any e by simp, ea]
    exact hQ
/-- a text in a text -/
def subS (x y : Str) : Bool := !(Builtin.Str.occurrences y x 0 y.length 1).isEmpty
/-- a key's datum -/
def D.key : D → Option Key
  | .int i => some (.inl i)
  | .str x => some (.inr x)
  | _ => none
def keysOf : List D → Option (List Key)
  | [] => some []
  | d :: ds => match d.key, keysOf ds with
    | some k, some ks => some (k :: ks)
    | _, _ => none
/-- perhaps a datum -/
def DOp (K : PySem.W.Frag) (al : List Addr) (F : Hp) : Option D → Option V → Prop
  | some d, some v => Dat K al F d v
  | none, none => True
  | _, _ => False
/-- what a dict has at a key -/
def look {κ : Type} [DecidableEq κ] (kvs : List (κ × D)) (k : κ) : Option D := (kvs.find? fun kv => decide (kv.1 = k)).map (·.2)
theorem look_ok {al : List Addr} {F : Hp} : ∀ {ds : List (Key × D)} {vs : List (Key × V)} (k : Key), DatK K al F ds vs → DOp K al F (look ds k) (valV vs k)
  | _, _, k, .nil => True.intro
  | (k', d) :: ds, _, k, .cons (v := v) (vs := vs) h t => by
    by_cases e : k' = k
    · have e1 : look ((k', d) :: ds) k = some d := by simp [look, List.find?_cons, e]
      have e2 : valV ((k', v) :: vs) k = some v := by simp [valV, List.find?_cons, e]
      rw [e1, e2]
      exact h
    · have e1 : look ((k', d) :: ds) k = look ds k := by simp [look, List.find?_cons, e]
      have e2 : valV ((k', v) :: vs) k = valV vs k := by simp [valV, List.find?_cons, e]
      rw [e1, e2]
      exact look_ok k t
theorem lookT_ok {al : List Addr} {F : Hp} : ∀ {ds : List (List Key × D)} {vs : List (List Key × V)} (k : List Key), DatT K al F ds vs → DOp K al F (look ds k) (valV vs k)
  | _, _, k, .nil => True.intro
  | (k', d) :: ds, _, k, .cons (v := v) (vs := vs) h t => by
    by_cases e : k' = k
    · have e1 : look ((k', d) :: ds) k = some d := by simp [look, List.find?_cons, e]
      have e2 : valV ((k', v) :: vs) k = some v := by simp [valV, List.find?_cons, e]
      rw [e1, e2]
      exact h
    · have e1 : look ((k', d) :: ds) k = look ds k := by simp [look, List.find?_cons, e]
      have e2 : valV ((k', v) :: vs) k = valV vs k := by simp [valV, List.find?_cons, e]
      rw [e1, e2]
      exact lookT_ok k t
theorem key_ok {al : List Addr} {F H : Hp} {d : D} {k : Key} {w : V} (h : d.key = some k) (r : Rdr K al F H d w) : w = kV k := by
  cases d <;> cases h
  · exact r.int
  · exact r.str
theorem keysOf_ok {al : List Addr} {F H : Hp} : ∀ {ds : List D} {ks : List Key} {vs : List V}, keysOf ds = some ks → DatL K al F ds vs → vs = ks.map kV
  | [], _, _, h, .nil => by cases h; rfl
  | d :: ds, _, _, h, .cons (v := v) r t => by
    unfold keysOf at h
    split at h
    · rename_i k ks hk hks
      cases h
      rw [keysOf_ok (H := H) hks t, key_ok (H := H) hk (.inl ⟨r, fun j e => by subst e; cases hk⟩)]
      rfl
    · cases h
/-- the key's place in a dict of either kind -/
def dictAt (c p : D) : Option (Option D) := match c with
  | .dk kvs => p.key.map fun k => look kvs k
  | .dt kvs => match p with
    | .tup ds => (keysOf ds).map fun ks => look kvs ks
    | _ => none
  | _ => none
theorem dictAt_ok {al : List Addr} {F H : Hp} (hs : Sub F H) {c p : D} {x y : V} {o : Option D} (rp : Rdr K al F H p x) (rc : Rdr K al F H c y) (h : dictAt c p = some o) :
    ∃ a, y = .ref a ∧ ∃ ov, DGet H a x ov ∧ DOp K al F o ov := by
  cases c with
  | dk kvs =>
    obtain ⟨a, vs, e, h1, h2⟩ := rc.dk hs
    cases hk : p.key with
    | none => simp only [dictAt, hk] at h; cases h
    | some k =>
      simp only [dictAt, hk] at h
      cases h
      exact ⟨a, e, _, .inl ⟨vs, k, h1, key_ok hk rp, rfl⟩, look_ok k h2⟩
  | dt kvs =>
    cases p with
    | tup ds =>
      obtain ⟨a, vs, e, h1, h2⟩ := rc.dt hs
      obtain ⟨b, us, e2, h3, h4, _⟩ := rp.tup hs
      cases hk : keysOf ds with
      | none => simp only [dictAt, hk] at h; cases h
      | some ks =>
        simp only [dictAt, hk] at h
        cases h
        have e3 := keysOf_ok (H := H) hk h4
        rw [e3] at h3
        exact ⟨a, e, _, .inr ⟨vs, ks, b, h1, e2, h3, rfl⟩, lookT_ok ks h2⟩
    | _ => cases h
  | _ => cases h
end
end VI
end
section
set_option Elab.async false
set_option linter.all false
set_option maxRecDepth 100000
set_option maxHeartbeats 2000000
/-! V6: arithmetic, order, in, is; truth, tests, and | or | not | if, chains; displays. -/
namespace VI
open PySem PySem.Spec L2

section
variable {X : Cx} {W : Wx} {K : PySem.W.Frag}
/-! ### arithmetic -/
def fI (C : Int → Int → Bool) (g : Int → Int → Int) : D → D → Option Va
  | .int i, .int j => if C i j then some (.im (.int (g i j))) else none
  | _, _ => none
theorem ops_i {C : Int → Int → Prop} {c : Int → Int → Bool} {g : Int → Int → Int} (hc : ∀ i j, c i j = true → C i j) : OpS K (rI C fun i j => .int (g i j)) (fI c g) := fun E F al H σ s x y p q va rel rx ry e Q hQ => by
  unfold fI at e
  split at e
  · split at e
    · rename_i h
      cases e
      cases rx.int; cases ry.int
      exact ⟨_, _, rfl, rfl, hc _ _ h, fin_d rel (.int _) hQ⟩
    · cases e
  · cases e
theorem ops_i0 {g : Int → Int → Int} : OpS K (rI0 fun i j => .int (g i j)) (fI (fun _ _ => true) g) := fun E F al H σ s x y p q va rel rx ry e Q hQ => by
  unfold fI at e
  split at e
  · split at e
    · cases e
      cases rx.int; cases ry.int
      exact ⟨_, _, rfl, rfl, fin_d rel (.int _) hQ⟩
    · cases e
  · cases e
abbrev fSub : D → D → Option Va := fI (fun _ _ => true) fun i j => i - j
def okDiv (i j : Int) : Bool := decide (0 < j) && decide (j < 1073741824)
def okMod (i j : Int) : Bool := decide (0 < j)
def okPow (i j : Int) : Bool := decide (0 ≤ j) && (decide (j ≤ 1000000) && decide (i.natAbs < 18446744073709551616))
def okMul (i j : Int) : Bool := (decide (-18446744073709551616 < i) && decide (i < 18446744073709551616)) || (decide (-18446744073709551616 < j) && decide (j < 18446744073709551616))
abbrev fDiv : D → D → Option Va := fI okDiv fun i j => i / j
abbrev fMod : D → D → Option Va := fI okMod fun i j => i % j
abbrev fPow : D → D → Option Va := fI okPow fun i j => i ^ j.toNat
theorem ops_div : OpS K (rI CDiv fun i j => .int (i / j)) fDiv := ops_i fun i j h => by
  simp only [okDiv, Bool.and_eq_true, decide_eq_true_eq] at h; exact h
theorem ops_mod : OpS K (rI (fun _ j => 0 < j) fun i j => .int (i % j)) fMod := ops_i fun i j h => by
  simpa [okMod] using h
theorem ops_pow : OpS K (rI CPow fun i j => .int (i ^ j.toNat)) fPow := ops_i fun i j h => by
  simp only [okPow, Bool.and_eq_true, decide_eq_true_eq] at h; exact ⟨h.1, h.2.1, by have := h.2.2; omega⟩
/-- int * int, list * int, text * int -/
def fMul : D → D → Option Va
  | .int i, .int j => if okMul i j then some (.im (.int (i * j))) else none
  | .lst xs, .int j => if decide (0 ≤ j) && (decide (j < 9223372036854775808) && decide (xs.length * j.toNat ≤ sizeLine)) then some (.fr (.lst (List.replicate j.toNat xs).flatten)) else none
  | .str x, .int j => if decide (0 ≤ j) && (decide (j < 1073741824) && decide (x.length * j.toNat ≤ sizeLine)) then some (.im (.str ⟨(List.replicate j.toNat x.cps.toList).flatten.toArray⟩)) else none
  | _, _ => none
def rMulS : R2 := fun x y H Q => ∃ (z : Str) (k : Int), x = .str z ∧ y = .int k ∧ 0 ≤ k ∧ k < 1073741824 ∧ z.length * k.toNat ≤ sizeLine ∧ Q (.str ⟨(List.replicate k.toNat z.cps.toList).flatten.toArray⟩) H
theorem foldl_app (l : List (Array Nat)) : ∀ a : Array Nat, l.foldl (· ++ ·) a = a ++ (l.map Array.toList).flatten.toArray := by
  induction l with
  | nil => intro a; simp
  | cons b t ih => intro a; rw [List.foldl_cons, ih]; apply Array.ext'; simp
theorem op_mulS : OpR X (binaryOp .Mult) rMulS := by
  intro pins s σ H x y v u Q I rx ry h
  obtain ⟨z, k, rfl, rfl, h0, h1, h2, q⟩ := h
  obtain ⟨t, rfl⟩ := rx
  obtain ⟨t', rfl⟩ := ry
  have hsl : sizeLine = 16777216 := sizeLine_eq
  refine PySem.P.mul_str ?_ (fun g1 g2 => ?_) (fun g1 g2 => ?_) ?_
  · have a : ¬ k < -(2 ^ 63 : Int) := by omega
    have b : ¬ k ≥ 2 ^ 63 := by omega
    rw [decide_eq_false a, decide_eq_false b]; rfl
  · have g3 : 1 ≤ k := by omega
    have g4 : z.length ≤ 16777216 := by
      have : z.length * 1 ≤ z.length * k.toNat := Nat.mul_le_mul_left _ (by omega)
      omega
    have g5 : (16777216 : Int) ≤ (2 ^ 63 - 1) / k := by
      rw [Int.le_ediv_iff_mul_le (by omega)]
      omega
    omega
  · show decide (z.length * k.toNat > sizeLine) = false
    exact decide_eq_false (by omega)
  · by_cases h3 : k < 1
    · rw [if_pos h3]
      have : k = 0 := by omega
      subst this
      refine ⟨by decide, ?_⟩
      exact ⟨.str Str.empty, H, I.tok _, ⟨_, rfl⟩, by simpa [Str.empty] using q⟩
    · rw [if_neg h3]
      by_cases h4 : (k == 1 || z.length == 0) = true
      · rw [if_pos h4]
        have e : (⟨(List.replicate k.toNat z.cps.toList).flatten.toArray⟩ : Str) = z := by
          rcases Bool.or_eq_true_iff.mp h4 with h5 | h5
          · have : k = 1 := by simpa using h5
            subst this
            simp
          · have : z.cps.size = 0 := by simpa [Str.length] using h5
            have e2 : z.cps = #[] := Array.eq_empty_of_size_eq_zero this
            obtain ⟨c⟩ := z
            simp only at e2
            subst e2
            simp
        rw [e] at q
        exact ⟨.str z, H, I, ⟨_, rfl⟩, q⟩
      · rw [if_neg h4]
        refine ⟨?_, ?_⟩
        · rw [foldl_app]
          show ((#[] ++ _ : Array Nat)).size ≤ sizeLine
          have e : (List.map Array.toList (List.replicate k.toNat z.cps)).flatten.length = k.toNat * z.cps.size := by
            rw [List.map_replicate, List.length_flatten, List.map_replicate, List.sum_replicate_nat]
            simp
          simp only [Array.size_append, List.size_toArray, List.length_nil, e]
          have e3 : k.toNat * z.cps.size = z.length * k.toNat := Nat.mul_comm _ _
          have e4 : (#[] : Array Nat).size = 0 := rfl
          omega
        · refine ⟨.str _, H, I.tok _, ⟨_, rfl⟩, ?_⟩
          rw [foldl_app]
          simpa using q
def rMulX : R2 := fun x y H Q => (rI CMul fun i j => .int (i * j)) x y H Q ∨ (fun x y H Q => rRep x y H Q ∨ rMulS x y H Q) x y H Q
theorem op_mulX : OpR X (binaryOp .Mult) rMulX := OpR.or op_mul (OpR.or op_rep op_mulS)
theorem rep_dat {al : List Addr} {F : Hp} {ds : List D} {vs : List V} (h : DatL K al F ds vs) : ∀ n : Nat, DatL K al F (List.replicate n ds).flatten (List.replicate n vs).flatten
  | 0 => .nil
  | n + 1 => by
    rw [List.replicate_succ, List.replicate_succ, List.flatten_cons, List.flatten_cons]
    exact h.app (rep_dat h n)
theorem rep_len {α : Type} (n : Nat) (xs : List α) : (List.replicate n xs).flatten.length = xs.length * n := by
  rw [List.length_flatten, List.map_replicate, List.sum_replicate_nat, Nat.mul_comm]
theorem ops_mul : OpS K rMulX fMul := fun E F al H σ s x y p q va rel rx ry e Q hQ => by
  unfold fMul at e
  split at e
  · split at e
    · rename_i h
      cases e
      cases rx.int; cases ry.int
      simp only [okMul, Bool.or_eq_true, Bool.and_eq_true, decide_eq_true_eq] at h
      exact .inl ⟨_, _, rfl, rfl, by unfold CMul; omega, fin_d rel (.int _) hQ⟩
    · cases e
  · split at e
    · rename_i xs j h
      cases e
      simp only [Bool.and_eq_true, decide_eq_true_eq] at h
      obtain ⟨a, vs, rfl, h1, l1, z1⟩ := rx.lst rel.sub
      cases ry.int
      have e1 := l1.length
      refine .inr (.inl ⟨a, j, vs, rfl, rfl, h1, by omega, by omega, by rw [← e1]; exact h.2.2, fin_l rel (rep_dat l1 _) (by rw [rep_len]; exact h.2.2) hQ⟩)
    · cases e
  · split at e
    · rename_i z j h
      cases e
      simp only [Bool.and_eq_true, decide_eq_true_eq] at h
      cases rx.str
      cases ry.int
      exact .inr (.inr ⟨z, j, rfl, rfl, h.1, h.2.1, h.2.2, fin_d rel (.str _) hQ⟩)
    · cases e
  · cases e

/-! ### order -/
def ltS (x y : Str) : Bool := decide (x.cps.toList < y.cps.toList)
def fLt : D → D → Option Va
  | .int i, .int j => some (.im (.bl (decide (i < j))))
  | .str x, .str y => some (.im (.bl (ltS x y)))
  | _, _ => none
def fGt : D → D → Option Va
  | .int i, .int j => some (.im (.bl (decide (j < i))))
  | .str x, .str y => some (.im (.bl (ltS y x)))
  | _, _ => none
def fLe : D → D → Option Va
  | .int i, .int j => some (.im (.bl (decide (i ≤ j))))
  | .str x, .str y => some (.im (.bl (!ltS y x)))
  | _, _ => none
def fGe : D → D → Option Va
  | .int i, .int j => some (.im (.bl (decide (j ≤ i))))
  | .str x, .str y => some (.im (.bl (!ltS x y)))
  | _, _ => none
def rOrd (f : Int → Int → Bool) (g : Str → Str → Bool) : R2 := fun x y H Q => (rI0 fun i j => .bl (f i j)) x y H Q ∨ (fun x y H Q => ∃ i j, x = .str i ∧ y = .str j ∧ Q (.bl (g i j)) H) x y H Q
theorem op_ltX : OpR X (compareOp .Lt) (rOrd (fun i j => decide (i < j)) ltS) := OpR.or op_lt op_lt_str
theorem op_gtX : OpR X (compareOp .Gt) (rOrd (fun i j => decide (j < i)) fun x y => ltS y x) := OpR.or op_gt op_gt_str
theorem op_leX : OpR X (compareOp .LtE) (rOrd (fun i j => decide (i ≤ j)) fun x y => !ltS y x) := OpR.or op_le op_le_str
theorem op_geX : OpR X (compareOp .GtE) (rOrd (fun i j => decide (j ≤ i)) fun x y => !ltS x y) := OpR.or op_ge op_ge_str
theorem ops_lt : OpS K (rOrd (fun i j => decide (i < j)) ltS) fLt := fun E F al H σ s x y p q va rel rx ry e Q hQ => by
  unfold fLt at e
  split at e
  · cases e; cases rx.int; cases ry.int; exact .inl ⟨_, _, rfl, rfl, fin_d rel (.bl _) hQ⟩
  · cases e; cases rx.str; cases ry.str; exact .inr ⟨_, _, rfl, rfl, fin_d rel (.bl _) hQ⟩
  · cases e
theorem ops_gt : OpS K (rOrd (fun i j => decide (j < i)) fun x y => ltS y x) fGt := fun E F al H σ s x y p q va rel rx ry e Q hQ => by
  unfold fGt at e
  split at e
  · cases e; cases rx.int; cases ry.int; exact .inl ⟨_, _, rfl, rfl, fin_d rel (.bl _) hQ⟩
  · cases e; cases rx.str; cases ry.str; exact .inr ⟨_, _, rfl, rfl, fin_d rel (.bl _) hQ⟩
  · cases e
theorem ops_le : OpS K (rOrd (fun i j => decide (i ≤ j)) fun x y => !ltS y x) fLe := fun E F al H σ s x y p q va rel rx ry e Q hQ => by
  unfold fLe at e
  split at e
  · cases e; cases rx.int; cases ry.int; exact .inl ⟨_, _, rfl, rfl, fin_d rel (.bl _) hQ⟩
  · cases e; cases rx.str; cases ry.str; exact .inr ⟨_, _, rfl, rfl, fin_d rel (.bl _) hQ⟩
  · cases e
theorem ops_ge : OpS K (rOrd (fun i j => decide (j ≤ i)) fun x y => !ltS x y) fGe := fun E F al H σ s x y p q va rel rx ry e Q hQ => by
  unfold fGe at e
  split at e
  · cases e; cases rx.int; cases ry.int; exact .inl ⟨_, _, rfl, rfl, fin_d rel (.bl _) hQ⟩
  · cases e; cases rx.str; cases ry.str; exact .inr ⟨_, _, rfl, rfl, fin_d rel (.bl _) hQ⟩
  · cases e
/-! ### is None -/
def isNon : D → Bool
  | .non => true
  | _ => false
def fIs : D → D → Option Va
  | p, .non => some (.im (.bl (isNon p)))
  | _, _ => none
def fIsnt : D → D → Option Va
  | p, .non => some (.im (.bl (!isNon p)))
  | _, _ => none
theorem isNon_ok {al : List Addr} {F H : Hp} {p : D} {x : V} (h : Rdr K al F H p x) : decide (x = .non) = isNon p := by
  rcases h with ⟨d, _⟩ | ⟨a, ho, o, e, h1, h2, h3⟩
  · cases d <;> first | rfl | exact decide_eq_false (fun z => by cases z)
  · subst e
    cases o <;> cases h3 <;> exact decide_eq_false (fun z => by cases z)
theorem ops_is : OpS K (fun x y H Q => y = .non ∧ Q (.bl (decide (x = .non))) H) fIs := fun E F al H σ s x y p q va rel rx ry e Q hQ => by
  unfold fIs at e
  split at e
  · cases e
    exact ⟨ry.non, by rw [isNon_ok rx]; exact fin_d rel (.bl _) hQ⟩
  · cases e
theorem ops_isnt : OpS K (fun x y H Q => y = .non ∧ Q (.bl (!decide (x = .non))) H) fIsnt := fun E F al H σ s x y p q va rel rx ry e Q hQ => by
  unfold fIsnt at e
  split at e
  · cases e
    exact ⟨ry.non, by rw [isNon_ok rx]; exact fin_d rel (.bl _) hQ⟩
  · cases e
/-! ### in -/
def inD (p c : D) : Option Bool := match c with
  | .lst xs => if bas 8 p && xs.all (bas 8) then some (inL p xs) else none
  | .tup xs => if bas 8 p && xs.all (bas 8) then some (inL p xs) else none
  | .tz xs => if bas 8 p && xs.all (bas 8) then some (inL p xs) else none
  | .str y => (match p with
    | .str x => some (subS x y)
    | _ => none)
  | c => (dictAt c p).map Option.isSome
def fIn (p c : D) : Option Va := (inD p c).map fun b => .im (.bl b)
def fNotIn (p c : D) : Option Va := (inD p c).map fun b => .im (.bl (!b))
def rDin (neg : Bool) : R2 := fun x y H Q => ∃ a o, y = .ref a ∧ DGet H a x o ∧ Q (.bl (if neg then !o.isSome else o.isSome)) H
def rInX (K : PySem.W.Frag) (neg : Bool) : R2 := fun x y H Q => rInv K neg x y H Q ∨ (fun x y H Q => (fun x y H Q => ∃ i j, x = .str i ∧ y = .str j ∧ Q (.bl (if neg then !subS i j else subS i j)) H) x y H Q ∨ rDin neg x y H Q) x y H Q
theorem op_din (hu : X.A.units + 1 < cLine) : OpR X (compareOp .In) (rDin false) := by
  intro pins s σ H x y v u Q I rx ry h
  obtain ⟨a, o, rfl, g, q⟩ := h
  cases ry
  exact d_in hu I g rx fun s' I' => ⟨.bl _, H, I', rfl, q⟩
theorem op_dnotin (hu : X.A.units + 1 < cLine) : OpR X (compareOp .NotIn) (rDin true) := by
  intro pins s σ H x y v u Q I rx ry h
  obtain ⟨a, o, rfl, g, q⟩ := h
  cases ry
  exact d_notIn hu I g rx fun s' I' => ⟨.bl _, H, I', rfl, q⟩
theorem op_inX (hu : X.A.units + 64 < cLine) : OpR X (compareOp .In) (rInX X.K false) := OpR.or (op_inv hu) (OpR.or op_in_str (op_din (by omega)))
theorem op_notInX (hu : X.A.units + 64 < cLine) : OpR X (compareOp .NotIn) (rInX X.K true) := OpR.or (op_notInv hu) (OpR.or op_notin_str (op_dnotin (by omega)))
theorem inX_ok (neg : Bool) {E : Ent} {F H : Hp} {al : List Addr} {σ : L2.St} {s : S} {x y : V} {p c : D} {b : Bool} (rel : Rel K E F al H σ s) (rx : Rdr K al F H p x) (ry : Rdr K al F H c y) (h : inD p c = some b) {Q : VK}
    (hQ : ∀ w F' al' H', Rel K E F' al' H' σ s → Stp σ s s F al H F' al' H' → VaR K E H al' F' H' σ s w (.im (.bl (if neg then !b else b))) → Q w H') : rInX K neg x y H Q := by
  unfold inD at h
  split at h
  · split at h
    · rename_i g
      rw [Bool.and_eq_true] at g
      cases h
      exact .inl ⟨al, F, p, _, _, rel.sub, g.1, g.2, .inl rfl, rx, ry, fin_d rel (.bl _) hQ⟩
    · cases h
  · split at h
    · rename_i g
      rw [Bool.and_eq_true] at g
      cases h
      exact .inl ⟨al, F, p, _, _, rel.sub, g.1, g.2, .inr (.inl rfl), rx, ry, fin_d rel (.bl _) hQ⟩
    · cases h
  · split at h
    · rename_i g
      rw [Bool.and_eq_true] at g
      cases h
      exact .inl ⟨al, F, p, _, _, rel.sub, g.1, g.2, .inr (.inr rfl), rx, ry, fin_d rel (.bl _) hQ⟩
    · cases h
  · split at h
    · cases h
      exact .inr (.inl ⟨_, _, rx.str, ry.str, fin_d rel (.bl _) hQ⟩)
    · cases h
  · cases hd : dictAt c p with
    | none => rw [hd] at h; cases h
    | some o =>
      rw [hd] at h
      cases h
      obtain ⟨a, e, ov, g, q⟩ := dictAt_ok rel.sub rx ry hd
      have eo : o.isSome = ov.isSome := by
        cases o <;> cases ov <;> first | rfl | exact q.elim
      refine .inr (.inr ⟨a, ov, e, g, ?_⟩)
      rw [← eo]
      exact fin_d rel (.bl _) hQ
theorem ops_in : OpS K (rInX K false) fIn := fun E F al H σ s x y p q va rel rx ry e Q hQ => by
  unfold fIn at e
  cases h : inD p q with
  | none => rw [h] at e; cases e
  | some b => rw [h] at e; cases e; exact inX_ok false rel rx ry h hQ
theorem ops_notin : OpS K (rInX K true) fNotIn := fun E F al H σ s x y p q va rel rx ry e Q hQ => by
  unfold fNotIn at e
  cases h : inD p q with
  | none => rw [h] at e; cases e
  | some b => rw [h] at e; cases e; exact inX_ok true rel rx ry h hQ
end
end VI
end
section
set_option Elab.async false
set_option linter.all false
set_option maxRecDepth 100000
set_option maxHeartbeats 2000000
/-! V7: truth, tests, and | or | not | if, chains; displays, subscripts, slices. -/
namespace VI
open PySem PySem.Spec L2

section
variable {X : Cx} {W : Wx} {K : PySem.W.Frag}
/-! ### truth -/
def tru : D → Option Bool
  | .non => some false
  | .bl b => some b
  | .int i => some (i != 0)
  | .str x => if x.length ≤ sizeLine then some ((x.length : Int) != 0) else none
  | .lst xs => some (!xs.isEmpty)
  | .tup xs => some (!xs.isEmpty)
  | .lz xs => some (!xs.isEmpty)
  | .tz xs => some (!xs.isEmpty)
  | _ => none
theorem DatL.empty {al : List Addr} {F : Hp} {ds : List D} {vs : List V} (h : DatL K al F ds vs) : vs.isEmpty = ds.isEmpty := by cases h <;> rfl
theorem tru_okD {al : List Addr} {F H : Hp} {p : D} {x : V} {b : Bool} (hs : Sub F H) (r : Rdr K al F H p x) (h : tru p = some b) : TruV K x H b := by
  unfold tru at h
  split at h
  · cases h; cases r.non; rfl
  · cases h; cases r.bl; rfl
  · cases h; cases r.int; rfl
  · split at h
    · rename_i hz
      cases h; cases r.str; exact ⟨hz, rfl⟩
    · cases h
  · cases h
    obtain ⟨a, vs, rfl, h1, l1, _⟩ := r.lst hs
    exact .inl ⟨vs, .inl (.inl h1), by rw [l1.empty]⟩
  · cases h
    obtain ⟨a, vs, rfl, h1, l1, _⟩ := r.tup hs
    exact .inr (.inl ⟨vs, .inl (.inl h1), by rw [l1.empty]⟩)
  · cases h
    obtain ⟨a, vs, rfl, h1, l1, _⟩ := r.lz hs
    exact .inl ⟨vs, h1, by rw [l1.empty]⟩
  · cases h
    obtain ⟨a, vs, rfl, h1, l1, _⟩ := r.tz hs
    exact .inr (.inl ⟨vs, h1, by rw [l1.empty]⟩)
  · cases h
def truOf (v : Va) : M Bool := fun s => match (rd v s).bind tru with
  | some b => .ok b s
  | none => .no
def evT (m : M Va) : M Bool := m >>= truOf
theorem truOf_ok {E : Ent} {Hs F H : Hp} {al : List Addr} {σ : L2.St} {s s1 : S} {w : V} {va : Va} {b : Bool} (rel : Rel K E F al H σ s) (v : VaR K E Hs al F H σ s w va) (h : truOf va s = .ok b s1) : s1 = s ∧ TruV K w H b := by
  unfold truOf at h
  cases hr : rd va s with
  | none => rw [hr] at h; cases h
  | some p =>
    rw [hr] at h
    cases ht : tru p with
    | none => simp only [Option.bind_some, ht] at h; cases h
    | some c =>
      simp only [Option.bind_some, ht] at h
      cases h
      exact ⟨rfl, tru_okD rel.sub (rd_ok rel v hr) ht⟩
theorem truOf_nex {va : Va} {s s1 : S} {x : Xc} : truOf va s ≠ .ex x s1 := fun h => by
  unfold truOf at h
  split at h <;> cases h
theorem good_evT {te : TE} {m : M Va} (g : GoodE K W te m) : GoodT K W (fun σ H Q => te σ H fun x H' => ∃ k, TruV K x H' k ∧ Q k H') (evT m) := fun E F al H σ s rel => by
  refine Sat.bind (u := fun x H' Q => ∃ k, TruV K x H' k ∧ Q k H') BR.low (g E F al H σ s rel) fun va s1 w1 F1 al1 H1 _ rel1 st1 v1 => ?_
  cases ht : truOf va s1 with
  | no => exact True.intro
  | ex x s2 => exact (truOf_nex ht).elim
  | ok b s2 =>
    obtain ⟨rfl, t⟩ := truOf_ok rel1 v1 ht
    exact fun Q hQ => ⟨b, t, hQ b F1 al1 H1 rel1 .refl rfl⟩
theorem st_val {a : Expr} {ev : M Va} (h : SE X K W a th ev) (he : ∀ whole, isTrue a X.env whole = (do let v ← whole; standAt a.pos; holding [v] (truthy v)) := by intro _; rfl) : ST X K W a (fun σ H Q => th σ H fun x H' => ∃ k, TruV K x H' k ∧ Q k H') (evT ev) := by
  obtain ⟨rfl, p, g⟩ := h
  exact ⟨rfl, pt_truth p he, good_evT g⟩
theorem SW.st {e : Expr} {ev : M Bool} (h : SW X K W e th ev) : ST X K W e th ev := by
  obtain ⟨rfl, p, g⟩ := h
  exact ⟨rfl, p.pt, g⟩
def mNot (m : M Bool) : M Bool := m >>= fun b => pure (!b)
def mAnd (a b : M Bool) : M Bool := a >>= fun x => match x with
  | true => b
  | false => pure false
def mOr (a b : M Bool) : M Bool := a >>= fun x => match x with
  | true => pure true
  | false => b
theorem st_not {a : Expr} {ea : M Bool} {pos : Pos} (ha : ST X K W a tha ea) : ST X K W (.UnaryOp .Not a pos) (tNot tha) (mNot ea) := by
  obtain ⟨rfl, p, g⟩ := ha
  refine ⟨rfl, pt_not p, fun E F al H σ s rel => ?_⟩
  refine Sat.bind (u := fun c H1 Q => Q (!c) H1) BR.low (g E F al H σ s rel) fun b s1 w1 F1 al1 H1 _ rel1 st1 v1 => ?_
  exact fun Q hQ => hQ _ F1 al1 H1 rel1 .refl (by rw [v1])
theorem sw_and1 {a : Expr} {ea : M Bool} {pos : Pos} (ha : ST X K W a tha ea) : SW X K W (.BoolOp .And [a] pos) tha ea := by
  obtain ⟨rfl, p, g⟩ := ha
  exact ⟨rfl, pw_and1 p, g⟩
theorem sw_or1 {a : Expr} {ea : M Bool} {pos : Pos} (ha : ST X K W a tha ea) : SW X K W (.BoolOp .Or [a] pos) tha ea := by
  obtain ⟨rfl, p, g⟩ := ha
  exact ⟨rfl, pw_or1 p, g⟩
theorem sw_and {a b : Expr} {rest : List Expr} {ea eb : M Bool} {pos : Pos} (ha : ST X K W a tha ea) (hb : SW X K W (.BoolOp .And (b :: rest) pos) thb eb) : SW X K W (.BoolOp .And (a :: b :: rest) pos) (tAnd tha thb) (mAnd ea eb) := by
  obtain ⟨rfl, p, g⟩ := ha
  obtain ⟨_, q, k⟩ := hb
  refine ⟨rfl, pw_and p q, fun E F al H σ s rel => ?_⟩
  refine Sat.bind (u := fun c H1 Q => if c = true then thb σ H1 Q else Q false H1) BR.low (g E F al H σ s rel) fun b s1 w1 F1 al1 H1 _ rel1 st1 v1 => ?_
  cases v1
  cases b with
  | true => exact (k E F1 al1 H1 σ s1 rel1).imp fun Q z => iteT z
  | false => exact fun Q hQ => iteF (hQ _ F1 al1 H1 rel1 .refl rfl)
theorem sw_or {a b : Expr} {rest : List Expr} {ea eb : M Bool} {pos : Pos} (ha : ST X K W a tha ea) (hb : SW X K W (.BoolOp .Or (b :: rest) pos) thb eb) : SW X K W (.BoolOp .Or (a :: b :: rest) pos) (tOr tha thb) (mOr ea eb) := by
  obtain ⟨rfl, p, g⟩ := ha
  obtain ⟨_, q, k⟩ := hb
  refine ⟨rfl, pw_or p q, fun E F al H σ s rel => ?_⟩
  refine Sat.bind (u := fun c H1 Q => if c = true then Q true H1 else thb σ H1 Q) BR.low (g E F al H σ s rel) fun b s1 w1 F1 al1 H1 _ rel1 st1 v1 => ?_
  cases v1
  cases b with
  | false => exact (k E F1 al1 H1 σ s1 rel1).imp fun Q z => iteF z
  | true => exact fun Q hQ => iteT (hQ _ F1 al1 H1 rel1 .refl rfl)
/-! ### .. as values -/
def evNot (m : M Va) : M Va := evT m >>= fun b => pure (.im (.bl (!b)))
def evAnd (a b : M Va) : M Va := a >>= fun v => truOf v >>= fun k => match k with
  | true => b
  | false => pure v
def evOr (a b : M Va) : M Va := a >>= fun v => truOf v >>= fun k => match k with
  | true => pure v
  | false => b
def evIf (c : M Bool) (a b : M Va) : M Va := c >>= fun k => match k with
  | true => a
  | false => b
theorem se_not {a : Expr} {ea : M Va} {pos : Pos} (ha : SE X K W a tha ea) : SE X K W (.UnaryOp .Not a pos) (tNotT K tha) (evNot ea) := by
  obtain ⟨rfl, p, g⟩ := ha
  refine ⟨rfl, pe_notT p, fun E F al H σ s rel => ?_⟩
  have q := Sat.bind (f := fun b => (pure (.im (.bl (!b))) : M Va)) (u := fun c H1 (Q : VK) => Q (.bl (!c)) H1) (VR.low (K := X.K) (E := E) (σ := σ)) (good_evT g E F al H σ s rel) fun b s1 w1 F1 al1 H1 _ rel1 st1 v1 => ?_
  · exact q.imp fun Q h => h
  · exact fun Q hQ => hQ _ F1 al1 H1 rel1 .refl (by rw [v1]; exact .bl _)
theorem se_one {op : BoolOp} {a : Expr} {ea : M Va} {pos : Pos} (ha : SE X K W a tha ea) : SE X K W (.BoolOp op [a] pos) tha ea := by
  obtain ⟨rfl, p, g⟩ := ha
  exact ⟨rfl, pe_one p, g⟩
theorem se_and {a b : Expr} {rest : List Expr} {ea eb : M Va} {pos : Pos} (ha : SE X K W a tha ea) (hb : SE X K W (.BoolOp .And (b :: rest) pos) thb eb) : SE X K W (.BoolOp .And (a :: b :: rest) pos) (tAndT K tha thb) (evAnd ea eb) := by
  obtain ⟨rfl, p, g⟩ := ha
  obtain ⟨_, q, k⟩ := hb
  refine ⟨rfl, pe_andT p q, fun E F al H σ s rel => ?_⟩
  refine Sat.bind2 (u := fun x H1 Q => ∃ k, TruV X.K x H1 k ∧ if k = true then thb σ H1 Q else Q x H1) (g E F al H σ s rel) fun va s1 w1 F1 al1 H1 _ rel1 st1 v1 => ?_
  rw [M.bind_run]
  cases ht : truOf va s1 with
  | no => exact True.intro
  | ex x s2 => exact (truOf_nex ht).elim
  | ok c s2 =>
    obtain ⟨rfl, tv⟩ := truOf_ok rel1 v1 ht
    cases c with
    | true => exact (Sat.after VR.low st1 (k E F1 al1 H1 σ s2 rel1)).imp fun Q z => ⟨true, tv, iteT z⟩
    | false => exact fun Q hQ => ⟨false, tv, iteF (hQ _ F1 al1 H1 rel1 st1 v1)⟩
theorem se_or {a b : Expr} {rest : List Expr} {ea eb : M Va} {pos : Pos} (ha : SE X K W a tha ea) (hb : SE X K W (.BoolOp .Or (b :: rest) pos) thb eb) : SE X K W (.BoolOp .Or (a :: b :: rest) pos) (tOrT K tha thb) (evOr ea eb) := by
  obtain ⟨rfl, p, g⟩ := ha
  obtain ⟨_, q, k⟩ := hb
  refine ⟨rfl, pe_orT p q, fun E F al H σ s rel => ?_⟩
  refine Sat.bind2 (u := fun x H1 Q => ∃ k, TruV X.K x H1 k ∧ if k = true then Q x H1 else thb σ H1 Q) (g E F al H σ s rel) fun va s1 w1 F1 al1 H1 _ rel1 st1 v1 => ?_
  rw [M.bind_run]
  cases ht : truOf va s1 with
  | no => exact True.intro
  | ex x s2 => exact (truOf_nex ht).elim
  | ok c s2 =>
    obtain ⟨rfl, tv⟩ := truOf_ok rel1 v1 ht
    cases c with
    | false => exact (Sat.after VR.low st1 (k E F1 al1 H1 σ s2 rel1)).imp fun Q z => ⟨false, tv, iteF z⟩
    | true => exact fun Q hQ => ⟨true, tv, iteT (hQ _ F1 al1 H1 rel1 st1 v1)⟩
theorem se_if {c a b : Expr} {ec : M Bool} {ea eb : M Va} {pos : Pos} (hc : ST X K W c thc ec) (ha : SE X K W a tha ea) (hb : SE X K W b thb eb) : SE X K W (.IfExp c a b pos) (tIf thc tha thb) (evIf ec ea eb) := by
  obtain ⟨rfl, pc, gc⟩ := hc
  obtain ⟨_, pa, ga⟩ := ha
  obtain ⟨_, pb, gb⟩ := hb
  refine ⟨rfl, pe_ifExp pc pa pb, fun E F al H σ s rel => ?_⟩
  refine Sat.bind (u := fun c H1 Q => if c = true then tha σ H1 Q else thb σ H1 Q) VR.low (gc E F al H σ s rel) fun b s1 w1 F1 al1 H1 _ rel1 st1 v1 => ?_
  cases v1
  cases b with
  | true => exact (ga E F1 al1 H1 σ s1 rel1).imp fun Q z => iteT z
  | false => exact (gb E F1 al1 H1 σ s1 rel1).imp fun Q z => iteF z
/-! ### a op b op c -/
def opF (f : D → D → Option Va) (x y : Va) : M Va := fun s => match rd x s, rd y s with
  | some p, some q => (match f p q with
    | some v => .ok v s
    | none => .no)
  | _, _ => .no
theorem opF_ok {r : R2} {f : D → D → Option Va} (hs : OpS K r f) {E : Ent} {Hs Hs2 F H : Hp} {al : List Addr} {σ : L2.St} {s : S} {w1 w2 : V} {x y : Va} (rel : Rel K E F al H σ s) (v1 : VaR K E Hs al F H σ s w1 x) (v2 : VaR K E Hs2 al F H σ s w2 y) :
    Sat K E W (VR K E σ) F al H σ s (fun Q => r w1 w2 H Q) (opF f x y s) := by
  unfold opF
  cases hx : rd x s with
  | none => exact True.intro
  | some p =>
    cases hy : rd y s with
    | none => exact True.intro
    | some q =>
      show Sat K E W (VR K E σ) F al H σ s (fun Q => r w1 w2 H Q) (match f p q with
        | some v => .ok v s
        | none => .no)
      cases hf : f p q with
      | none => exact True.intro
      | some va => exact fun Q hQ => hs E F al H σ s w1 w2 p q va rel (rd_ok rel v1 hx) (rd_ok rel v2 hy) hf Q hQ
def evChain (f g : D → D → Option Va) (a b c : M Va) : M Va := a >>= fun x => b >>= fun y => opF f x y >>= fun z => match z with
  | .im (.bl true) => c >>= fun w => opF g y w
  | .im (.bl false) => pure (.im (.bl false))
  | _ => fun _ => .no
theorem good_chain {r r' : R2} {f g : D → D → Option Va} {ta tb tc : TE} {a b c : M Va} (ga : GoodE K W ta a) (gb : GoodE K W tb b) (gc : GoodE K W tc c) (hs : OpS K r f) (hs' : OpS K r' g) : GoodE K W (tChain r r' ta tb tc) (evChain f g a b c) := fun E F al H σ s rel => by
  refine Sat.bind (u := fun x H1 Q => tb σ H1 fun y H2 => r x y H2 fun z H3 => ∃ k, z = .bl k ∧ (if k = true then tc σ H3 fun w' H4 => r' y w' H4 Q else Q (.bl false) H3)) VR.low (ga E F al H σ s rel) fun x s1 w1 F1 al1 H1 _ rel1 st1 v1 => ?_
  refine Sat.bind (u := fun y H2 Q => r w1 y H2 fun z H3 => ∃ k, z = .bl k ∧ (if k = true then tc σ H3 fun w' H4 => r' y w' H4 Q else Q (.bl false) H3)) VR.low (gb E F1 al1 H1 σ s1 rel1) fun y s2 w2 F2 al2 H2 _ rel2 st2 v2 => ?_
  refine Sat.bind (u := fun z H3 Q => ∃ k, z = .bl k ∧ (if k = true then tc σ H3 fun w' H4 => r' w2 w' H4 Q else Q (.bl false) H3)) VR.low (opF_ok hs rel2 (v1.mono st2) v2) fun z s3 w3 F3 al3 H3 _ rel3 st3 v3 => ?_
  cases z with
  | im d =>
    cases d with
    | bl k =>
      cases (show Dat K al3 F3 (.bl k) w3 from v3)
      cases k with
      | true =>
        have q := Sat.bind (u := fun w' H4 Q => r' w2 w' H4 Q) VR.low (gc E F3 al3 H3 σ s3 rel3) fun w s4 w4 F4 al4 H4 _ rel4 st4 v4 => opF_ok (W := W) hs' rel4 ((v2.mono st3).mono st4) v4
        exact q.imp fun Q z => ⟨true, rfl, iteT z⟩
      | false => exact fun Q hQ => ⟨false, rfl, iteF (hQ _ F3 al3 H3 rel3 .refl (.bl false))⟩
    | _ => exact True.intro
  | _ => exact True.intro
theorem se_chain {op op' : CmpOp} {r r' : R2} {f g : D → D → Option Va} {a b c : Expr} {ea eb ec : M Va} {pos : Pos} (ho : OpR X (compareOp op) r) (ho' : OpR X (compareOp op') r') (hs : OpS K r f) (hs' : OpS K r' g) (ha : SE X K W a tha ea) (hb : SE X K W b thb eb) (hc : SE X K W c thc ec)
    (hm : lastMarks [op, op'] [b, c] = false := by with_unfolding_all rfl) : SE X K W (.Compare a [op, op'] [b, c] pos) (tChain r r' tha thb thc) (evChain f g ea eb ec) := by
  obtain ⟨rfl, pa, ga⟩ := ha
  obtain ⟨_, pb, gb⟩ := hb
  obtain ⟨_, pc, gc⟩ := hc
  exact ⟨rfl, pe_chain ho ho' pa pb pc hm, good_chain ga gb gc hs hs'⟩
theorem st_chain {op op' : CmpOp} {r r' : R2} {f g : D → D → Option Va} {a b c : Expr} {ea eb ec : M Va} {pos : Pos} (ho : OpR X (compareOp op) r) (ho' : OpR X (compareOp op') r') (hs : OpS K r f) (hs' : OpS K r' g) (ha : SE X K W a tha ea) (hb : SE X K W b thb eb) (hc : SE X K W c thc ec)
    (hm : lastMarks [op, op'] [b, c] = false := by with_unfolding_all rfl) : ST X K W (.Compare a [op, op'] [b, c] pos) (tTest (tChain r r' tha thb thc)) (evB (evChain f g ea eb ec)) := by
  obtain ⟨rfl, pa, ga⟩ := ha
  obtain ⟨_, pb, gb⟩ := hb
  obtain ⟨_, pc, gc⟩ := hc
  exact ⟨rfl, pt_chain ho ho' pa pb pc hm, good_tt (good_chain ga gb gc hs hs')⟩
/-! ### argument lists, displays -/
def evNil : M (List D) := pure []
def evCons (m : M Va) (r : M (List D)) : M (List D) := (m >>= esc) >>= fun d => r >>= fun ds => pure (d :: ds)
def seqOf : D → Option (List D)
  | .lst xs => some xs
  | .tup xs => some xs
  | .lz xs => some xs
  | .tz xs => some xs
  | _ => none
theorem seqOf_ok {al : List Addr} {F H : Hp} {p : D} {w : V} {xs : List D} (hs : Sub F H) (r : Rdr K al F H p w) (h : seqOf p = some xs) : ∃ a vs, w = .ref a ∧ (SqT K H a vs ∨ SqL K H a vs) ∧ DatL K al F xs vs ∧ xs.length ≤ sizeLine := by
  unfold seqOf at h
  split at h
  · cases h; obtain ⟨a, vs, e, h1, l, z⟩ := r.lst hs; exact ⟨a, vs, e, .inr (.of h1), l, z⟩
  · cases h; obtain ⟨a, vs, e, h1, l, z⟩ := r.tup hs; exact ⟨a, vs, e, .inl (.of h1), l, z⟩
  · cases h; obtain ⟨a, vs, e, h1, l, z⟩ := r.lz hs; exact ⟨a, vs, e, .inr h1, l, z⟩
  · cases h; obtain ⟨a, vs, e, h1, l, z⟩ := r.tz hs; exact ⟨a, vs, e, .inl h1, l, z⟩
  · cases h
def evStar (m : M Va) (r : M (List D)) : M (List D) := m >>= fun v s => match (rd v s).bind seqOf with
  | some xs => (r >>= fun ys => (pure (xs ++ ys) : M (List D))) s
  | none => .no
theorem sa_nil (hK : X.K = K := by rfl) : SA X K W [] tNil evNil := ⟨hK, pa_nil, fun E F al H σ s rel => fun Q hQ => hQ [] F al H rel .refl .nil⟩
theorem sa_cons {e : Expr} {es : List Expr} {ev : M Va} {evs : M (List D)} (he : SE X K W e the ev) (hr : SA X K W es thr evs) (hs : starEach (e :: es) X.env = (false, eval e X.env) :: starEach es X.env := by rfl) : SA X K W (e :: es) (tCons the thr) (evCons ev evs) := by
  obtain ⟨rfl, pe, ge⟩ := he
  obtain ⟨_, pa, ga⟩ := hr
  refine ⟨rfl, pa_cons pe pa hs, fun E F al H σ s rel => ?_⟩
  refine Sat.bind (u := fun x H1 Q => thr σ H1 fun xs H2 => Q (x :: xs) H2) LR.low (ge E F al H σ s rel).esc fun d s1 w1 F1 al1 H1 _ rel1 st1 v1 => ?_
  refine Sat.bind (u := fun xs H2 Q => Q (w1 :: xs) H2) LR.low (ga E F1 al1 H1 σ s1 rel1) fun ds s2 w2 F2 al2 H2 _ rel2 st2 v2 => ?_
  exact fun Q hQ => hQ _ F2 al2 H2 rel2 .refl (.cons (v1.mono st2.gr) v2)
theorem sa_star {e : Expr} {es : List Expr} {ev : M Va} {evs : M (List D)} {p : Pos} (he : SE X K W e the ev) (hr : SA X K W es thr evs) (hs : starEach (.Starred e p :: es) X.env = (true, eval e X.env) :: starEach es X.env := by rfl) : SA X K W (.Starred e p :: es) (StX.tStar K the thr) (evStar ev evs) := by
  obtain ⟨rfl, pe, ge⟩ := he
  obtain ⟨_, pa, ga⟩ := hr
  refine ⟨rfl, StX.pa_star pe pa hs, fun E F al H σ s rel => ?_⟩
  refine Sat.bind (u := fun x H1 Q => ∃ p xs, x = V.ref p ∧ (SqT X.K H1 p xs ∨ SqL X.K H1 p xs) ∧ thr σ H1 fun ys H2 => Q (xs ++ ys) H2) LR.low (ge E F al H σ s rel) fun va s1 w1 F1 al1 H1 _ rel1 st1 v1 => ?_
  cases h : (rd va s1).bind seqOf with
  | none => exact True.intro
  | some xs =>
    cases hr : rd va s1 with
    | none => rw [hr] at h; cases h
    | some p =>
      rw [hr] at h
      obtain ⟨a, vs, e, h1, l, z⟩ := seqOf_ok rel1.sub (rd_ok rel1 v1 hr) h
      have q := Sat.bind (u := fun ys H2 Q => Q (vs ++ ys) H2) (LR.low (K := X.K)) (ga E F1 al1 H1 σ s1 rel1) (f := fun ys => (pure (xs ++ ys) : M (List D))) fun ds s2 w2 F2 al2 H2 _ rel2 st2 v2 => fun Q hQ => hQ _ F2 al2 H2 rel2 .refl ((l.mono st2.gr).app v2)
      exact q.imp fun Q z => ⟨a, vs, e, h1, z⟩
def evLst (m : M (List D)) : M Va := m >>= fun ds s => if ds.length ≤ sizeLine then .ok (.fr (.lst ds)) s else .no
def evTup (m : M (List D)) : M Va := m >>= fun ds s => if ds.length ≤ sizeLine then .ok (.im (.tup ds)) s else .no
theorem se_lst {es : List Expr} {evs : M (List D)} {pos : Pos} (h : SA X K W es th evs) : SE X K W (.List es pos) (tLst th) (evLst evs) := by
  obtain ⟨rfl, pa, ga⟩ := h
  refine ⟨rfl, pe_lst pa, fun E F al H σ s rel => ?_⟩
  refine Sat.bind (u := fun xs H1 Q => xs.length ≤ sizeLine ∧ ∀ p, H1 p = none → Q (.ref p) (upd H1 p (.lst xs))) VR.low (ga E F al H σ s rel) fun ds s1 vs F1 al1 H1 _ rel1 st1 v1 => ?_
  show Sat X.K E W (VR X.K E σ) F1 al1 H1 σ s1 _ (if ds.length ≤ sizeLine then .ok (.fr (.lst ds)) s1 else .no)
  by_cases hz : ds.length ≤ sizeLine
  · rw [if_pos hz]
    exact fun Q hQ => ⟨by rw [← DatL.length v1]; exact hz, fun p hp => fin_l rel1 v1 hz hQ p hp⟩
  · rw [if_neg hz]; exact True.intro
theorem se_tup {es : List Expr} {evs : M (List D)} {k : Nat} {pos : Pos} (h : SA X K W es th evs) : SE X K W (.Tuple es k pos) (tTup th) (evTup evs) := by
  obtain ⟨rfl, pa, ga⟩ := h
  refine ⟨rfl, pe_tup pa, fun E F al H σ s rel => ?_⟩
  refine Sat.bind (u := fun xs H1 Q => xs.length ≤ sizeLine ∧ ∀ p, H1 p = none → Q (.ref p) (upd H1 p (.tup xs))) VR.low (ga E F al H σ s rel) fun ds s1 vs F1 al1 H1 _ rel1 st1 v1 => ?_
  show Sat X.K E W (VR X.K E σ) F1 al1 H1 σ s1 _ (if ds.length ≤ sizeLine then .ok (.im (.tup ds)) s1 else .no)
  by_cases hz : ds.length ≤ sizeLine
  · rw [if_pos hz]
    exact fun Q hQ => ⟨by rw [← DatL.length v1]; exact hz, fun p hp => fin_t rel1 v1 hz hQ p hp⟩
  · rw [if_neg hz]; exact True.intro
/-- {} : K for keys that are ints or texts, T for tuples -/
theorem se_dnewK {pos : Pos} (hK : X.K = K := by rfl) : SE X K W (.Dict [] [] pos) tDNewK (pure (.fr (.dk []))) := ⟨hK, pe_dnewK, fun E F al H σ s rel => fun Q hQ => fun p hp => hQ _ F al _ (rel.new0 hp) (.new0 hp) (.new rel hp .nil)⟩
theorem se_dnewT {pos : Pos} (hK : X.K = K := by rfl) : SE X K W (.Dict [] [] pos) tDNewT (pure (.fr (.dt []))) := ⟨hK, pe_dnewT, fun E F al H σ s rel => fun Q hQ => fun p hp => hQ _ F al _ (rel.new0 hp) (.new0 hp) (.new rel hp .nil)⟩
/-! ### subscripts -/
def fIx (c p : D) : Option Va := match c with
  | .lst xs => (match p with
    | .int i => (atI xs i).map .im
    | _ => none)
  | .tup xs => (match p with
    | .int i => (atI xs i).map .im
    | _ => none)
  | .lz xs => (match p with
    | .int i => (atI xs i).map .im
    | _ => none)
  | .tz xs => (match p with
    | .int i => (atI xs i).map .im
    | _ => none)
  | .str z => (match p with
    | .int i => if z.length ≤ sizeLine then (atI z.cps.toList i).map fun c => .im (.str ⟨#[c]⟩) else none
    | _ => none)
  | c => (match dictAt c p with
    | some (some d) => some (.im d)
    | _ => none)
def rDix : R2 := fun x y H Q => ∃ a v, x = .ref a ∧ DGet H a y (some v) ∧ Q v H
theorem ix_dict (hu : X.A.units + 1 < cLine) : IxR X rDix := by
  intro value slice pins s σ H x y v u Q I rx ry h hs
  obtain ⟨a, w, rfl, g, q⟩ := h
  cases rx
  exact PyProof.Rows.tail_any (dict_typeIs I g) PySem.F.slot_dict_getitem.lookup (d_getItem hu I g ry fun w' s' I' r' => ⟨w, H, I', r', q⟩) hs
def rIxX (K : PySem.W.Frag) : R2 := fun x y H Q => rIx K x y H Q ∨ rDix x y H Q
theorem ix_x (hu : X.A.units + 1 < cLine) : IxR X (rIxX X.K) := ix_seq.or (ix_dict hu)
theorem atI_dat {al : List Addr} {F : Hp} {ds : List D} {vs : List V} (l : DatL K al F ds vs) {i : Int} {d : D} (h : atI ds i = some d) : ∃ v, atI vs i = some v ∧ Dat K al F d v := by
  unfold atI at h ⊢
  rw [← l.length]
  cases hj : ixN ds.length i with
  | none => rw [hj] at h; cases h
  | some j =>
    rw [hj] at h
    exact l.getD (i := j) h
theorem ops_ix : OpS K (rIxX K) fIx := fun E F al H σ s x y p q va rel rx ry e Q hQ => by
  unfold fIx at e
  split at e
  · split at e
    · rename_i xs _ i
      cases h : atI xs i with
      | none => rw [h] at e; cases e
      | some d =>
        rw [h] at e; cases e
        obtain ⟨a, vs, rfl, h1, l, z⟩ := rx.lst rel.sub
        obtain ⟨v, hv, dv⟩ := atI_dat l h
        cases ry.int
        exact .inl (.inl ⟨a, vs, i, v, rfl, rfl, .of h1, hv, fin_d rel dv hQ⟩)
    · cases e
  · split at e
    · rename_i xs _ i
      cases h : atI xs i with
      | none => rw [h] at e; cases e
      | some d =>
        rw [h] at e; cases e
        obtain ⟨a, vs, rfl, h1, l, z⟩ := rx.tup rel.sub
        obtain ⟨v, hv, dv⟩ := atI_dat l h
        cases ry.int
        exact .inl (.inr (.inl ⟨a, vs, i, v, rfl, rfl, .of h1, hv, fin_d rel dv hQ⟩))
    · cases e
  · split at e
    · rename_i xs _ i
      cases h : atI xs i with
      | none => rw [h] at e; cases e
      | some d =>
        rw [h] at e; cases e
        obtain ⟨a, vs, rfl, h1, l, z⟩ := rx.lz rel.sub
        obtain ⟨v, hv, dv⟩ := atI_dat l h
        cases ry.int
        exact .inl (.inl ⟨a, vs, i, v, rfl, rfl, h1, hv, fin_d rel dv hQ⟩)
    · cases e
  · split at e
    · rename_i xs _ i
      cases h : atI xs i with
      | none => rw [h] at e; cases e
      | some d =>
        rw [h] at e; cases e
        obtain ⟨a, vs, rfl, h1, l, z⟩ := rx.tz rel.sub
        obtain ⟨v, hv, dv⟩ := atI_dat l h
        cases ry.int
        exact .inl (.inr (.inl ⟨a, vs, i, v, rfl, rfl, h1, hv, fin_d rel dv hQ⟩))
    · cases e
  · split at e
    · split at e
      · rename_i z _ i hz
        cases h : atI z.cps.toList i with
        | none => rw [h] at e; cases e
        | some c =>
          rw [h] at e; cases e
          cases rx.str; cases ry.int
          exact .inl (.inr (.inr ⟨z, i, c, rfl, rfl, hz, h, fin_d rel (.str _) hQ⟩))
      · cases e
    · cases e
  · split at e
    · rename_i d hd
      cases e
      obtain ⟨a, e, ov, g, q⟩ := dictAt_ok rel.sub ry rx hd
      cases ov with
      | none => exact q.elim
      | some v => exact .inr ⟨a, v, e, g, fin_d rel q hQ⟩
    · cases e
theorem se_ix {a b : Expr} {ea eb : M Va} {pos : Pos} (hu : X.A.units + 1 < cLine) (ha : SE X K W a tha ea) (hb : SE X K W b thb eb) (hs : PlainIx b := by exact fun _ _ => rfl) : SE X K W (.Subscript a b pos) (tOp (rIxX K) tha thb) (evOp fIx ea eb) := by
  obtain ⟨rfl, pa, ga⟩ := ha
  obtain ⟨_, pb, gb⟩ := hb
  exact ⟨rfl, pe_ix (ix_x hu) pa pb hs, good_op ga gb ops_ix⟩
/-! ### slices -/
def evPart : Option (M Va) → M (Option Int)
  | none => pure none
  | some m => m >>= fun v => match v with
    | .im (.int i) => pure (some i)
    | _ => fun _ => .no
abbrev OR : Hp → List Addr → Hp → Hp → S → Option Int → Option Int → Prop := fun _ _ _ _ _ w b => w = b
theorem OR.low : Low OR := fun _ _ _ _ _ _ _ _ _ r => r
def SO (X : Cx) (K : PySem.W.Frag) (W : Wx) (e : Option Expr) (t : TO) (ev : M (Option Int)) : Prop := X.K = K ∧ PO X e t ∧ ∀ (E : Ent) (F : Hp) (al : List Addr) (H : Hp) (σ : L2.St) (s : S), Rel K E F al H σ s → Sat K E W OR F al H σ s (t σ H) (ev s)
theorem so_none (hK : X.K = K := by rfl) : SO X K W none tNoPart (evPart none) := ⟨hK, po_none, fun E F al H σ s rel => fun Q hQ => hQ none F al H rel .refl rfl⟩
theorem so_some {e : Expr} {ev : M Va} (h : SE X K W e th ev) : SO X K W (some e) (tPart th) (evPart (some ev)) := by
  obtain ⟨rfl, pe, ge⟩ := h
  refine ⟨rfl, po_some pe, fun E F al H σ s rel => ?_⟩
  refine Sat.bind (u := fun x H1 Q => ∃ i, x = .int i ∧ Q (some i) H1) OR.low (ge E F al H σ s rel) fun va s1 w1 F1 al1 H1 _ rel1 st1 v1 => ?_
  cases va with
  | im d =>
    cases d with
    | int i =>
      cases (show Dat X.K al1 F1 (.int i) w1 from v1)
      exact fun Q hQ => ⟨i, rfl, hQ _ F1 al1 H1 rel1 .refl rfl⟩
    | _ => exact True.intro
  | _ => exact True.intro
def cutD {α : Type} (xs : List α) (lo hi : Option Int) : List α := (xs.drop (HT.sIx xs.length 0 lo)).take (HT.sIx xs.length xs.length hi - HT.sIx xs.length 0 lo)
def fSl (p : D) (lo hi : Option Int) : Option Va := match p with
  | .lst xs => some (.fr (.lst (cutD xs lo hi)))
  | .tup xs => some (.im (.tup (cutD xs lo hi)))
  | .str z => if z.length ≤ sizeLine then some (.im (.str (cutS z lo hi))) else none
  | _ => none
def evSl (m : M Va) (l h : M (Option Int)) : M Va := m >>= fun v => l >>= fun lo => h >>= fun hi => fun s => match (rd v s).bind fun p => fSl p lo hi with
  | some v => .ok v s
  | none => .no
def rSlX (K : PySem.W.Frag) : V → Option Int → Option Int → Hp → VK → Prop := fun x lo hi H Q => rSlL K x lo hi H Q ∨ (fun x lo hi H Q => L2.rSlA K x lo hi H Q ∨ rSlS x lo hi H Q) x lo hi H Q
theorem sl_x : L2.SlR X (rSlX X.K) := L2.SlR.or sl_list (L2.SlR.or sl_tupA sl_str)
theorem cut_dat {al : List Addr} {F : Hp} {ds : List D} {vs : List V} (l : DatL K al F ds vs) (lo hi : Option Int) : DatL K al F (cutD ds lo hi) (cutV vs lo hi) := by
  unfold cutD cutV
  rw [← l.length]
  exact l.drop.take
theorem cut_len {α : Type} (xs : List α) (lo hi : Option Int) : (cutD xs lo hi).length ≤ xs.length := by
  unfold cutD
  rw [List.length_take, List.length_drop]
  omega
theorem cut_all {α : Type} (xs : List α) {lo hi : Option Int} (h : HT.sIx xs.length 0 lo = 0 ∧ HT.sIx xs.length xs.length hi = xs.length) : cutD xs lo hi = xs := by
  unfold cutD
  rw [h.1, h.2]
  simp
theorem se_slice {e : Expr} {lo hi : Option Expr} {ev : M Va} {el eh : M (Option Int)} {p2 pos : Pos} (he : SE X K W e the ev) (hl : SO X K W lo thl el) (hh : SO X K W hi thh eh) : SE X K W (.Subscript e (.Slice lo hi none p2) pos) (tSl (rSlX K) the thl thh) (evSl ev el eh) := by
  obtain ⟨rfl, pe, ge⟩ := he
  obtain ⟨_, pl, gl⟩ := hl
  obtain ⟨_, ph, gh⟩ := hh
  refine ⟨rfl, pe_slice sl_x pe pl ph, fun E F al H σ s rel => ?_⟩
  refine Sat.bind (u := fun x H1 Q => thl σ H1 fun l H2 => thh σ H2 fun u H3 => rSlX X.K x l u H3 Q) VR.low (ge E F al H σ s rel) fun va s1 w1 F1 al1 H1 _ rel1 st1 v1 => ?_
  refine Sat.bind (u := fun l H2 Q => thh σ H2 fun u H3 => rSlX X.K w1 l u H3 Q) VR.low (gl E F1 al1 H1 σ s1 rel1) fun lo s2 w2 F2 al2 H2 _ rel2 st2 v2 => ?_
  refine Sat.bind (u := fun u H3 Q => rSlX X.K w1 w2 u H3 Q) VR.low (gh E F2 al2 H2 σ s2 rel2) fun hi s3 w3 F3 al3 H3 _ rel3 st3 v3 => ?_
  have v2 : w2 = lo := v2
  have v3 : w3 = hi := v3
  subst v2 v3
  cases hr : rd va s3 with
  | none => simp only [hr, Option.bind_none]; exact True.intro
  | some p =>
    simp only [hr, Option.bind_some]
    have rp := rd_ok rel3 ((v1.mono st2).mono st3) hr
    cases hf : fSl p w2 w3 with
    | none => exact True.intro
    | some vb =>
      refine fun Q hQ => ?_
      unfold fSl at hf
      split at hf
      · rename_i xs
        cases hf
        obtain ⟨a, vs, e, h1, l, z⟩ := rp.lst rel3.sub
        exact .inl ⟨a, vs, e, .of h1, fun q hq => fin_l rel3 (cut_dat l _ _) (Nat.le_trans (cut_len _ _ _) z) hQ q hq⟩
      · rename_i xs
        cases hf
        obtain ⟨a, vs, e, h1, l, z⟩ := rp.tup rel3.sub
        subst e
        refine .inr (.inl ⟨a, vs, rfl, .of h1, fun hw => ?_, fun _ q hq => fin_t rel3 (cut_dat l _ _) (Nat.le_trans (cut_len _ _ _) z) hQ q hq⟩)
        rw [← l.length] at hw
        rw [cut_all xs hw] at hQ
        exact hQ _ F3 al3 H3 rel3 .refl rp.tupD
      · split at hf
        · rename_i z hz
          cases hf
          cases rp.str
          exact .inr (.inr ⟨z, rfl, hz, fin_d rel3 (.str _) hQ⟩)
        · cases hf
      · cases hf
end
end VI
end
section
set_option Elab.async false
set_option linter.all false
set_option maxRecDepth 100000
set_option maxHeartbeats 2000000
/-! V8: the operators' rules by name; statements, targets, loops. -/
namespace VI
open PySem PySem.Spec L2

section
variable {X : Cx} {W : Wx} {K : PySem.W.Frag} {a b c : Expr} {tha thb thc : TE} {ea eb ec : M Va} {pos : Pos}
theorem se_add (ha : SE X K W a tha ea) (hb : SE X K W b thb eb) : SE X K W (.BinOp a .Add b pos) (tOp (rAddX K) tha thb) (evOp fAdd ea eb) := by
  obtain ⟨rfl, _⟩ := id ha; exact se_bin op_addX ops_add ha hb
theorem se_sub (ha : SE X K W a tha ea) (hb : SE X K W b thb eb) : SE X K W (.BinOp a .Sub b pos) (tOp (rI0 fun i j => .int (i - j)) tha thb) (evOp fSub ea eb) := se_bin op_sub ops_i0 ha hb
theorem se_mul (ha : SE X K W a tha ea) (hb : SE X K W b thb eb) : SE X K W (.BinOp a .Mult b pos) (tOp rMulX tha thb) (evOp fMul ea eb) := se_bin op_mulX ops_mul ha hb
theorem se_div (ha : SE X K W a tha ea) (hb : SE X K W b thb eb) : SE X K W (.BinOp a .FloorDiv b pos) (tOp (rI CDiv fun i j => .int (i / j)) tha thb) (evOp fDiv ea eb) := se_bin op_fdiv ops_div ha hb
theorem se_mod (ha : SE X K W a tha ea) (hb : SE X K W b thb eb) : SE X K W (.BinOp a .Mod b pos) (tOp (rI (fun _ j => 0 < j) fun i j => .int (i % j)) tha thb) (evOp fMod ea eb) := se_bin op_mod ops_mod ha hb
theorem se_pow (ha : SE X K W a tha ea) (hb : SE X K W b thb eb) : SE X K W (.BinOp a .Pow b pos) (tOp (rI CPow fun i j => .int (i ^ j.toNat)) tha thb) (evOp fPow ea eb) := se_bin op_pow ops_pow ha hb
def fNeg : D → D → Option Va
  | .int i, _ => some (.im (.int (-i)))
  | _, _ => none
def evNeg (m : M Va) : M Va := m >>= fun v => match v with
  | .im (.int i) => pure (.im (.int (-i)))
  | _ => fun _ => .no
theorem se_neg (ha : SE X K W a tha ea) : SE X K W (.UnaryOp .USub a pos) (tUn (rU fun i => .int (-i)) tha) (evNeg ea) := by
  obtain ⟨rfl, p, g⟩ := ha
  refine ⟨rfl, pe_un un_neg p, fun E F al H σ s rel => ?_⟩
  refine Sat.bind (u := fun x H1 Q => ∃ i, x = .int i ∧ Q (.int (-i)) H1) VR.low (g E F al H σ s rel) fun va s1 w1 F1 al1 H1 _ rel1 st1 v1 => ?_
  cases va with
  | im d =>
    cases d with
    | int i =>
      cases (show Dat X.K al1 F1 (.int i) w1 from v1)
      exact fun Q hQ => ⟨i, rfl, hQ _ F1 al1 H1 rel1 .refl (.int _)⟩
    | _ => exact True.intro
  | _ => exact True.intro
theorem se_eq (hu : X.A.units + 64 < cLine) (ha : SE X K W a tha ea) (hb : SE X K W b thb eb) : SE X K W (.Compare a [.Eq] [b] pos) (tOp (rEqv K false) tha thb) (evOp fEq ea eb) := by
  obtain ⟨rfl, _⟩ := id ha; exact se_cmp (op_eqv hu) ops_eq ha hb (nomark _)
theorem se_ne (hu : X.A.units + 64 < cLine) (ha : SE X K W a tha ea) (hb : SE X K W b thb eb) : SE X K W (.Compare a [.NotEq] [b] pos) (tOp (rEqv K true) tha thb) (evOp fNe ea eb) := by
  obtain ⟨rfl, _⟩ := id ha; exact se_cmp (op_nev hu) ops_ne ha hb (nomark _)
theorem se_lt (ha : SE X K W a tha ea) (hb : SE X K W b thb eb) : SE X K W (.Compare a [.Lt] [b] pos) (tOp (rOrd (fun i j => decide (i < j)) ltS) tha thb) (evOp fLt ea eb) := se_cmp op_ltX ops_lt ha hb (nomark _)
theorem se_gt (ha : SE X K W a tha ea) (hb : SE X K W b thb eb) : SE X K W (.Compare a [.Gt] [b] pos) (tOp (rOrd (fun i j => decide (j < i)) fun x y => ltS y x) tha thb) (evOp fGt ea eb) := se_cmp op_gtX ops_gt ha hb (nomark _)
theorem se_le (ha : SE X K W a tha ea) (hb : SE X K W b thb eb) : SE X K W (.Compare a [.LtE] [b] pos) (tOp (rOrd (fun i j => decide (i ≤ j)) fun x y => !ltS y x) tha thb) (evOp fLe ea eb) := se_cmp op_leX ops_le ha hb (nomark _)
theorem se_ge (ha : SE X K W a tha ea) (hb : SE X K W b thb eb) : SE X K W (.Compare a [.GtE] [b] pos) (tOp (rOrd (fun i j => decide (j ≤ i)) fun x y => !ltS x y) tha thb) (evOp fGe ea eb) := se_cmp op_geX ops_ge ha hb (nomark _)
theorem se_is (ha : SE X K W a tha ea) (hb : SE X K W b thb eb) : SE X K W (.Compare a [.Is] [b] pos) (tOp (fun x y H Q => y = .non ∧ Q (.bl (decide (x = .non))) H) tha thb) (evOp fIs ea eb) := se_cmp op_isN ops_is ha hb (nomark _)
theorem se_isnt (ha : SE X K W a tha ea) (hb : SE X K W b thb eb) : SE X K W (.Compare a [.IsNot] [b] pos) (tOp (fun x y H Q => y = .non ∧ Q (.bl (!decide (x = .non))) H) tha thb) (evOp fIsnt ea eb) := se_cmp op_notN ops_isnt ha hb (nomark _)
theorem se_in (hu : X.A.units + 64 < cLine) (ha : SE X K W a tha ea) (hb : SE X K W b thb eb) (hm : behindInMarks .In b = false := by with_unfolding_all rfl) : SE X K W (.Compare a [.In] [b] pos) (tOp (rInX K false) tha thb) (evOp fIn ea eb) := by
  obtain ⟨rfl, _⟩ := id ha; exact se_cmp (op_inX hu) ops_in ha hb hm
theorem se_notin (hu : X.A.units + 64 < cLine) (ha : SE X K W a tha ea) (hb : SE X K W b thb eb) (hm : behindInMarks .NotIn b = false := by with_unfolding_all rfl) : SE X K W (.Compare a [.NotIn] [b] pos) (tOp (rInX K true) tha thb) (evOp fNotIn ea eb) := by
  obtain ⟨rfl, _⟩ := id ha; exact se_cmp (op_notInX hu) ops_notin ha hb hm
theorem st_eq (hu : X.A.units + 64 < cLine) (ha : SE X K W a tha ea) (hb : SE X K W b thb eb) : ST X K W (.Compare a [.Eq] [b] pos) (tTest (tOp (rEqv K false) tha thb)) (evB (evOp fEq ea eb)) := by
  obtain ⟨rfl, _⟩ := id ha; exact st_cmp (op_eqv hu) ops_eq ha hb (nomark _)
theorem st_ne (hu : X.A.units + 64 < cLine) (ha : SE X K W a tha ea) (hb : SE X K W b thb eb) : ST X K W (.Compare a [.NotEq] [b] pos) (tTest (tOp (rEqv K true) tha thb)) (evB (evOp fNe ea eb)) := by
  obtain ⟨rfl, _⟩ := id ha; exact st_cmp (op_nev hu) ops_ne ha hb (nomark _)
theorem st_lt (ha : SE X K W a tha ea) (hb : SE X K W b thb eb) : ST X K W (.Compare a [.Lt] [b] pos) (tTest (tOp (rOrd (fun i j => decide (i < j)) ltS) tha thb)) (evB (evOp fLt ea eb)) := st_cmp op_ltX ops_lt ha hb (nomark _)
theorem st_gt (ha : SE X K W a tha ea) (hb : SE X K W b thb eb) : ST X K W (.Compare a [.Gt] [b] pos) (tTest (tOp (rOrd (fun i j => decide (j < i)) fun x y => ltS y x) tha thb)) (evB (evOp fGt ea eb)) := st_cmp op_gtX ops_gt ha hb (nomark _)
theorem st_le (ha : SE X K W a tha ea) (hb : SE X K W b thb eb) : ST X K W (.Compare a [.LtE] [b] pos) (tTest (tOp (rOrd (fun i j => decide (i ≤ j)) fun x y => !ltS y x) tha thb)) (evB (evOp fLe ea eb)) := st_cmp op_leX ops_le ha hb (nomark _)
theorem st_ge (ha : SE X K W a tha ea) (hb : SE X K W b thb eb) : ST X K W (.Compare a [.GtE] [b] pos) (tTest (tOp (rOrd (fun i j => decide (j ≤ i)) fun x y => !ltS x y) tha thb)) (evB (evOp fGe ea eb)) := st_cmp op_geX ops_ge ha hb (nomark _)
theorem st_is (ha : SE X K W a tha ea) (hb : SE X K W b thb eb) : ST X K W (.Compare a [.Is] [b] pos) (tTest (tOp (fun x y H Q => y = .non ∧ Q (.bl (decide (x = .non))) H) tha thb)) (evB (evOp fIs ea eb)) := st_cmp op_isN ops_is ha hb (nomark _)
theorem st_isnt (ha : SE X K W a tha ea) (hb : SE X K W b thb eb) : ST X K W (.Compare a [.IsNot] [b] pos) (tTest (tOp (fun x y H Q => y = .non ∧ Q (.bl (!decide (x = .non))) H) tha thb)) (evB (evOp fIsnt ea eb)) := st_cmp op_notN ops_isnt ha hb (nomark _)
theorem st_in (hu : X.A.units + 64 < cLine) (ha : SE X K W a tha ea) (hb : SE X K W b thb eb) (hm : behindInMarks .In b = false := by with_unfolding_all rfl) : ST X K W (.Compare a [.In] [b] pos) (tTest (tOp (rInX K false) tha thb)) (evB (evOp fIn ea eb)) := by
  obtain ⟨rfl, _⟩ := id ha; exact st_cmp (op_inX hu) ops_in ha hb hm
theorem st_notin (hu : X.A.units + 64 < cLine) (ha : SE X K W a tha ea) (hb : SE X K W b thb eb) (hm : behindInMarks .NotIn b = false := by with_unfolding_all rfl) : ST X K W (.Compare a [.NotIn] [b] pos) (tTest (tOp (rInX K true) tha thb)) (evB (evOp fNotIn ea eb)) := by
  obtain ⟨rfl, _⟩ := id ha; exact st_cmp (op_notInX hu) ops_notin ha hb hm
end

/-! ### statements -/
inductive Ot where
  | nx (s : S) | rt (v : Va) (s : S) | bk (s : S) | ct (s : S) | ex (x : Xc) (s : S) | no
abbrev Sx := S → Ot
/-- what a statement's end asks of what is wanted -/
def Wants (K : PySem.W.Frag) (E : Ent) (W : Wx) (al : List Addr) (F : Hp) (D : Ends) : Ot → Prop
  | .nx s' => ∀ (F' : Hp) (al' : List Addr) (H' : Hp) (σ' : L2.St), Rel K E F' al' H' σ' s' → Gr al F al' F' → D.nx σ' H'
  | .bk s' => ∀ (F' : Hp) (al' : List Addr) (H' : Hp) (σ' : L2.St), Rel K E F' al' H' σ' s' → Gr al F al' F' → D.bk σ' H'
  | .ct s' => ∀ (F' : Hp) (al' : List Addr) (H' : Hp) (σ' : L2.St), Rel K E F' al' H' σ' s' → Gr al F al' F' → D.ct σ' H'
  | .rt v s' => ∀ (w : V) (F' : Hp) (al' : List Addr) (H' : Hp) (σ' : L2.St), Rel K E F' al' H' σ' s' → Gr al F al' F' → VaR K E E.H al' F' H' σ' s' w v → (∀ i, v ≠ .pl i) → D.rt w H'
  | .ex x s' => ∀ (cls : Value) (d : Option Addr) (F' : Hp) (al' : List Addr) (H' : Hp) (σ' : L2.St), Rel K E F' al' H' σ' s' → Gr al F al' F' → XcR K al' F' H' cls d x → W cls d σ' H'
  | .no => False
def GoodS (K : PySem.W.Frag) (W : Wx) (t : TS) (sv : Sx) : Prop := ∀ (E : Ent) (F : Hp) (al : List Addr) (H : Hp) (σ : L2.St) (s : S) (D : Ends), Rel K E F al H σ s → Wants K E W al F D (sv s) → t D σ H
/-- a statement's worth, a block's -/
def SS (X : Cx) (K : PySem.W.Frag) (W : Wx) (st : Stmt) (t : TS) (sv : Sx) : Prop := X.K = K ∧ PS X st t ∧ GoodS K W t sv
def SSs (X : Cx) (K : PySem.W.Frag) (W : Wx) (st : List Stmt) (t : TS) (sv : Sx) : Prop := X.K = K ∧ PSs X st t ∧ GoodS K W t sv
section
variable {K : PySem.W.Frag} {E : Ent} {W : Wx} {al al1 : List Addr} {F F1 : Hp} {D D' : Ends} {o : Ot}
theorem Wants.gr (g : Gr al F al1 F1) (h : Wants K E W al F D o) : Wants K E W al1 F1 D o := by
  cases o with
  | nx s => exact fun F' al' H' σ' r k => h F' al' H' σ' r (g.trans k)
  | bk s => exact fun F' al' H' σ' r k => h F' al' H' σ' r (g.trans k)
  | ct s => exact fun F' al' H' σ' r k => h F' al' H' σ' r (g.trans k)
  | rt v s => exact fun w F' al' H' σ' r k => h w F' al' H' σ' r (g.trans k)
  | ex x s => exact fun c d F' al' H' σ' r k => h c d F' al' H' σ' r (g.trans k)
  | no => exact h
end
def svSeq (a b : Sx) : Sx := fun s => match a s with
  | .nx s' => b s'
  | o => o
def svSkip : Sx := .nx
def svIf (c : M Bool) (a b : Sx) : Sx := fun s => match c s with
  | .ok true s' => a s'
  | .ok false s' => b s'
  | .ex x s' => .ex x s'
  | .no => .no
/-- a value for a slot -/
def svLet {α : Type} (m : M α) (k : α → Sx) : Sx := fun s => match m s with
  | .ok v s' => k v s'
  | .ex x s' => .ex x s'
  | .no => .no
def setIm (i : Nat) (d : D) (s : S) : S := { s with env := s.env.set i (.im d) }
/-- name = value: the datum; a container of the slot's own; a cell -/
def svSet (i : Nat) (m : M Va) : Sx := svLet (m >>= esc) fun d s => .nx (setIm i d s)
def svSetO (i : Nat) (m : M Va) : Sx := svLet m fun v s => match v with
  | .fr o => .nx { s with env := s.env.set i (.ow false o) }
  | .im d => .nx (setIm i d s)
  | .pl _ => .no
def svSetC (i : Nat) (m : M Va) : Sx := svLet m fun v s => match v with
  | .fr o => .nx { env := s.env.set i (.im (.ref s.st.length)), st := s.st ++ [o] }
  | .im d => .nx (setIm i d s)
  | .pl _ => .no
def svExpr (m : M Va) : Sx := svLet m fun _ s => .nx s
def svRet (m : M Va) : Sx := svLet m fun v s => match v with
  | .im d => .rt (.im d) s
  | .fr o => .rt (.fr o) s
  | .pl i => (match s.env[i]? with
    | some (.ow false o) => .rt (.fr o) { s with env := s.env.set i .un }
    | some (.im d) => .rt (.im d) s
    | _ => .no)
def svRetN : Sx := fun s => .rt (.im .non) s

section
variable {K : PySem.W.Frag} {E : Ent} {σ : L2.St} {s s1 : S} {F F1 H H1 : Hp} {al al1 : List Addr} {w : V}
theorem set_get {α : Type} {l : List α} {i j : Nat} {x y : α} (h : (l.set i x)[j]? = some y) : (i = j ∧ y = x ∧ i < l.length) ∨ (i ≠ j ∧ l[j]? = some y) := by
  by_cases e : i = j
  · subst e
    by_cases hi : i < l.length
    · rw [List.getElem?_set_self hi] at h
      exact .inl ⟨rfl, (Option.some.inj h).symm, hi⟩
    · rw [List.getElem?_eq_none (by rw [List.length_set]; omega)] at h
      cases h
  · rw [List.getElem?_set_ne e] at h
    exact .inr ⟨e, h⟩
theorem Rel.setIm (r : Rel K E F al H σ s) (i : Nat) {d : D} (h : Dat K al F d w) : Rel K E F al H (σ.set i (some w)) (setIm i d s) := by
  refine ⟨r.sub, r.clen, r.cell, r.nd, by show (s.env.set i _).length = (σ.set i _).length; rw [List.length_set, List.length_set]; exact r.elen, fun j sl v g1 g2 => ?_, fun j k p q o u a g1 g2 g3 g4 => ?_, r.ent, fun j p o a g1 g2 => ?_⟩
  · rcases set_get g1 with ⟨e, e2, hi⟩ | ⟨e, g1⟩
    · subst e e2
      rw [List.getElem?_set_self (by rw [← r.elen]; exact hi)] at g2
      cases g2
      exact ⟨w, rfl, h⟩
    · rw [List.getElem?_set_ne e] at g2
      exact r.env j sl v g1 g2
  · rcases set_get g1 with ⟨e, e2, hi⟩ | ⟨e, g1⟩
    · cases e2
    · rcases set_get g2 with ⟨e', e2, hi⟩ | ⟨e', g2⟩
      · cases e2
      · rw [List.getElem?_set_ne e] at g3
        rw [List.getElem?_set_ne e'] at g4
        exact r.own j k p q o u a g1 g2 g3 g4
  · rcases set_get g1 with ⟨e, e2, hi⟩ | ⟨e, g1⟩
    · cases e2
    · rw [List.getElem?_set_ne e] at g2
      exact r.onew j p o a g1 g2
theorem Rel.setOw (r : Rel K E F al H σ s) (i : Nat) {o : Ob} {a : Addr} {ho : HO} (h1 : F a = none) (h2 : H a = some ho) (h3 : ObR K al F o ho) (h4 : ¬ Tch al s.env σ a) (h5 : E.H a = none) :
    Rel K E F al H (σ.set i (some (.ref a))) { s with env := s.env.set i (.ow false o) } := by
  refine ⟨r.sub, r.clen, r.cell, r.nd, by show (s.env.set i _).length = (σ.set i _).length; rw [List.length_set, List.length_set]; exact r.elen, fun j sl v g1 g2 => ?_, fun j k p q u z b g1 g2 g3 g4 => ?_, r.ent, fun j p u b g1 g2 => ?_⟩
  · rcases set_get g1 with ⟨e, e2, hi⟩ | ⟨e, g1⟩
    · subst e e2
      rw [List.getElem?_set_self (by rw [← r.elen]; exact hi)] at g2
      cases g2
      exact ⟨a, ho, rfl, h1, fun z => h4 (.inl z), h2, h3⟩
    · rw [List.getElem?_set_ne e] at g2
      exact r.env j sl v g1 g2
  · rcases set_get g1 with ⟨e, e2, hi⟩ | ⟨e, g1⟩
    · rcases set_get g2 with ⟨e', e2', hi'⟩ | ⟨e', g2⟩
      · exact e.symm.trans e'
      · rw [List.getElem?_set_ne e'] at g4
        subst e
        rw [List.getElem?_set_self (by rw [← r.elen]; exact hi)] at g3
        cases g3
        exact absurd (Or.inr ⟨k, _, _, g2, g4⟩) h4
    · rw [List.getElem?_set_ne e] at g3
      rcases set_get g2 with ⟨e', e2', hi'⟩ | ⟨e', g2⟩
      · subst e'
        rw [List.getElem?_set_self (by rw [← r.elen]; exact hi')] at g4
        cases g4
        exact absurd (Or.inr ⟨j, _, _, g1, g3⟩) h4
      · rw [List.getElem?_set_ne e'] at g4
        exact r.own j k p q u z b g1 g2 g3 g4
  · rcases set_get g1 with ⟨e, e2, hi⟩ | ⟨e, g1⟩
    · cases e2
      subst e
      rw [List.getElem?_set_self (by rw [← r.elen]; exact hi)] at g2
      cases g2
      simpa using h5
    · rw [List.getElem?_set_ne e] at g2
      exact r.onew j p u b g1 g2
/-- a container becomes a cell -/
theorem Rel.mkCell (r : Rel K E F al H σ s) {o : Ob} {a : Addr} {ho : HO} (h1 : F a = none) (h2 : H a = some ho) (h3 : ObR K al F o ho) (h4 : ¬ Tch al s.env σ a) (h5 : E.H a = none) :
    Rel K E F (al ++ [a]) H σ { s with st := s.st ++ [o] } ∧ Gr al F (al ++ [a]) F ∧ Dat K (al ++ [a]) F (.ref s.st.length) (.ref a) := by
  have gr : Gr al F (al ++ [a]) F := ⟨fun _ _ h => h, [a], rfl⟩
  refine ⟨⟨r.sub, by simp [r.clen], fun j b u g1 g2 => ?_, ?_, r.elen, fun j sl v g1 g2 => ?_, r.own, ?_, r.onew⟩, gr, .ref (by rw [← r.clen]; simp)⟩
  · by_cases e : j < al.length
    · rw [List.getElem?_append_left e] at g1
      rw [List.getElem?_append_left (by rw [← r.clen]; exact e)] at g2
      obtain ⟨f, hu, q1, q2⟩ := r.cell j b u g1 g2
      exact ⟨f, hu, q1, q2.mono gr⟩
    · rw [List.getElem?_append_right (by omega)] at g1
      rw [List.getElem?_append_right (by rw [← r.clen]; omega)] at g2
      have e2 : j - al.length = 0 := by
        have := (List.getElem?_eq_some_iff.mp g1).1
        simp at this; omega
      rw [e2] at g1
      rw [← r.clen, e2] at g2
      cases g1; cases g2
      exact ⟨h1, ho, h2, h3.mono gr⟩
  · rw [List.nodup_append]
    exact ⟨r.nd, by simp, fun x hx y hy => by
      simp at hy; subst hy; intro e; subst e; exact h4 (.inl hx)⟩
  · have q := r.env j sl v g1 g2
    cases sl with
    | un => exact True.intro
    | im d =>
      obtain ⟨x, e, q⟩ := q
      exact ⟨x, e, q.mono gr⟩
    | ow p u =>
      obtain ⟨b, hb, e, q1, q2, q3, q4⟩ := q
      subst e
      refine ⟨b, hb, rfl, q1, fun z => ?_, q3, q4.mono gr⟩
      rcases List.mem_append.mp z with z | z
      · exact q2 z
      · simp at z; subst z; exact h4 (.inr ⟨j, _, _, g1, g2⟩)
  · obtain ⟨l, e, n⟩ := r.ent.al
    exact ⟨r.ent.f, r.ent.fn, ⟨l ++ [a], by rw [e, List.append_assoc], fun x hx => by
      rcases List.mem_append.mp hx with hx | hx
      · exact n x hx
      · simp at hx; subst hx; exact h5⟩, r.ent.keep, r.ent.live⟩
end
section
variable {X : Cx} {W : Wx} {K : PySem.W.Frag}
theorem sss_nil (hK : X.K = K := by rfl) : SSs X K W [] tNext svSkip := ⟨hK, pss_nil, fun E F al H σ s D rel w => w F al H σ rel .refl⟩
theorem sss_one {st : Stmt} {t : TS} {sv : Sx} (h : SS X K W st t sv) : SSs X K W [st] t sv := by
  obtain ⟨hK, p, g⟩ := h
  exact ⟨hK, pss_one p, g⟩
theorem good_seq {t u : TS} {a b : Sx} (g : GoodS K W t a) (k : GoodS K W u b) : GoodS K W (tSeq t u) (svSeq a b) := fun E F al H σ s D rel w => by
  refine g E F al H σ s _ rel ?_
  have w : Wants K E W al F D (match a s with
    | .nx s' => b s'
    | o => o) := w
  cases ha : a s with
  | nx s1 =>
    rw [ha] at w
    exact fun F' al' H' σ' r gr => k E F' al' H' σ' s1 D r (w.gr gr)
  | _ => rw [ha] at w; exact w
theorem sss_cons {st : Stmt} {rest : List Stmt} {t u : TS} {a b : Sx} (h : SS X K W st t a) (hr : SSs X K W rest u b) : SSs X K W (st :: rest) (tSeq t u) (svSeq a b) := by
  obtain ⟨hK, p, g⟩ := h
  obtain ⟨_, q, k⟩ := hr
  exact ⟨hK, pss_cons p q, good_seq g k⟩
/-- a reading in a statement -/
theorem Sat.want {α β : Type} {E : Ent} {R : Hp → List Addr → Hp → Hp → S → β → α → Prop} {F H : Hp} {al : List Addr} {σ : L2.St} {s : S} {t : (β → Hp → Prop) → Prop} {m : M α} {k : α → Sx} {D : Ends} {u : β → Hp → Prop} (h : Sat K E W R F al H σ s t (m s)) (w : Wants K E W al F D (svLet m k s))
    (hk : ∀ a s1 v F1 al1 H1, m s = .ok a s1 → Rel K E F1 al1 H1 σ s1 → Gr al F al1 F1 → R H al1 F1 H1 s1 v a → Wants K E W al1 F1 D (k a s1) → u v H1) (hx : ∀ x s1 Q, m s = .ex x s1 → (∀ cls d F' al' H', Rel K E F' al' H' σ s1 → Stp σ s s1 F al H F' al' H' → XcR K al' F' H' cls d x → W cls d σ H') → t Q → t Q) : t u := by
  unfold svLet at w
  cases hm : m s with
  | no => rw [hm] at w; exact w.elim
  | ex x s1 =>
    rw [hm] at h w
    exact h _ fun cls d F' al' H' r st x => w cls d F' al' H' σ r st.gr x
  | ok a s1 =>
    rw [hm] at h w
    exact h _ fun v F1 al1 H1 r st q => hk a s1 v F1 al1 H1 hm r st.gr q (w.gr st.gr)
theorem ss_if {c : Expr} {p q : List Stmt} {thc : TT} {t u : TS} {ec : M Bool} {a b : Sx} {pos : Pos} (hc : ST X K W c thc ec) (ha : SSs X K W p t a) (hb : SSs X K W q u b) : SS X K W (.If c p q pos) (tIfS thc t u) (svIf ec a b) := by
  obtain ⟨hK, pc, gc⟩ := hc
  obtain ⟨_, pa, ga⟩ := ha
  obtain ⟨_, pb, gb⟩ := hb
  refine ⟨hK, ps_if pc pa pb, fun E F al H σ s D rel w => ?_⟩
  refine Sat.want (k := fun x => match x with
    | true => a
    | false => b) (m := ec) (gc E F al H σ s rel) (D := D) ?_ (fun x s1 v F1 al1 H1 hm r gr e w1 => ?_) fun _ _ _ _ _ h => h
  · have w : Wants K E W al F D (match ec s with
      | .ok true s' => a s'
      | .ok false s' => b s'
      | .ex x s' => .ex x s'
      | .no => .no) := w
    unfold svLet
    cases he : ec s with
    | ok x s1 => rw [he] at w; cases x <;> exact w
    | ex x s1 => rw [he] at w; exact w
    | no => rw [he] at w; exact w
  · subst e
    cases v with
    | true => exact iteT (ga E F1 al1 H1 σ s1 D r w1)
    | false => exact iteF (gb E F1 al1 H1 σ s1 D r w1)
theorem ss_pass {pos : Pos} (hK : X.K = K := by rfl) : SS X K W (.Pass pos) tNext svSkip := ⟨hK, ps_pass, fun E F al H σ s D rel w => w F al H σ rel .refl⟩
theorem ss_doc {x : Str} {j : Nat} {pos pos' : Pos} (hK : X.K = K := by rfl) : SS X K W (.Expr (.Constant (.str x) j pos) pos') tNext svSkip := ⟨hK, ps_doc, fun E F al H σ s D rel w => w F al H σ rel .refl⟩
theorem ss_break {pos : Pos} (hK : X.K = K := by rfl) : SS X K W (.Break pos) tBreak .bk := ⟨hK, ps_break, fun E F al H σ s D rel w => w F al H σ rel .refl⟩
theorem ss_cont {pos : Pos} (hK : X.K = K := by rfl) : SS X K W (.Continue pos) tCont .ct := ⟨hK, ps_continue, fun E F al H σ s D rel w => w F al H σ rel .refl⟩
theorem ss_expr {e : Expr} {te : TE} {ev : M Va} {pos : Pos} (h : SE X K W e te ev) (hs : swapsWith e none pos.line X.env = pure false := by rfl) : SS X K W (.Expr e pos) (tDrop te) (svExpr ev) := by
  obtain ⟨hK, p, g⟩ := h
  exact ⟨hK, ps_expr p hs, fun E F al H σ s D rel w => (g E F al H σ s rel).want w (fun x s1 v F1 al1 H1 hm r gr e w1 => w1 F1 al1 H1 σ r .refl) fun _ _ _ _ _ h => h⟩
theorem ss_retN {pos : Pos} (hK : X.K = K := by rfl) : SS X K W (.Return none pos) tRetN svRetN := ⟨hK, ps_retN, fun E F al H σ s D rel w => w _ F al H σ rel .refl .non (fun _ e => by cases e)⟩
theorem ss_ret {e : Expr} {te : TE} {ev : M Va} {pos : Pos} (h : SE X K W e te ev) : SS X K W (.Return (some e) pos) (tRet te) (svRet ev) := by
  obtain ⟨hK, p, g⟩ := h
  refine ⟨hK, ps_ret p, fun E F al H σ s D rel w => (g E F al H σ s rel).want w (fun v s1 x F1 al1 H1 hm r gr q w1 => ?_) fun _ _ _ _ _ h => h⟩
  cases v with
  | im d => exact w1 x F1 al1 H1 σ r .refl q (fun _ e => by cases e)
  | fr o =>
    obtain ⟨a, ho, e, h1, h2, h3, h4, h5, h6⟩ := q
    exact w1 x F1 al1 H1 σ r .refl ⟨a, ho, e, h1, h2, h3, h4, h5, h5⟩ (fun _ e => by cases e)
  | pl i =>
    have w1 : Wants K E W al1 F1 D (match s1.env[i]? with
      | some (.ow false o) => .rt (.fr o) { s1 with env := s1.env.set i .un }
      | some (.im d) => .rt (.im d) s1
      | _ => .no) := w1
    cases he : s1.env[i]? with
    | none => rw [he] at w1; exact w1.elim
    | some sl =>
      rw [he] at w1
      cases sl with
      | un => exact w1.elim
      | im d =>
        obtain ⟨y, e, q2⟩ := r.env i _ _ he q.1
        cases e
        exact w1 x F1 al1 H1 σ r .refl q2 (fun _ e => by cases e)
      | ow b o =>
        cases b with
        | true => exact w1.elim
        | false =>
          obtain ⟨a, ho, e, h1, h2, h3, h4⟩ := r.env i _ _ he q.1
          cases e
          have h5 : E.H a = none := by simpa using r.onew i false o a he q.1
          have r2 : Rel K E F1 al1 H1 σ { s1 with env := s1.env.set i .un } := by
            refine ⟨r.sub, r.clen, r.cell, r.nd, by show (s1.env.set i _).length = _; rw [List.length_set]; exact r.elen, fun j sl v g1 g2 => ?_, fun j k p q o u a g1 g2 g3 g4 => ?_, r.ent, fun j p o a g1 g2 => ?_⟩
            · rcases set_get g1 with ⟨e, e2, hi⟩ | ⟨e, g1⟩
              · subst e2; exact True.intro
              · exact r.env j sl v g1 g2
            · rcases set_get g1 with ⟨e, e2, hi⟩ | ⟨e, g1⟩
              · cases e2
              · rcases set_get g2 with ⟨e', e2, hi⟩ | ⟨e', g2⟩
                · cases e2
                · exact r.own j k p q o u a g1 g2 g3 g4
            · rcases set_get g1 with ⟨e, e2, hi⟩ | ⟨e, g1⟩
              · cases e2
              · exact r.onew j p o a g1 g2
          refine w1 _ F1 al1 H1 σ r2 .refl ⟨a, ho, rfl, h1, h3, h4, fun t => ?_, h5, h5⟩ (fun _ e => by cases e)
          rcases t with t | ⟨j, p, u, g1, g2⟩
          · exact h2 t
          · rcases set_get g1 with ⟨e, e2, hi⟩ | ⟨e, g1⟩
            · cases e2
            · exact e (r.own i j _ _ _ _ a he g1 q.1 g2)
theorem ss_set (i : Nat) {x : Str} {e : Expr} {te : TE} {ev : M Va} {pos pos' : Pos} (h : SE X K W e te ev) (hN : X.N.Nodup) (hi : X.N[i]? = some x := by rfl) (hx : Loc X.env.scope x := by first | exact Or.inl rfl | exact Or.inr rfl) (hs : swapsWith e (some (.Name x pos')) pos.line X.env = pure false := by rfl)
    (hf : X.fn x = true ∨ X.env.scope.names.lookup x = some .local := by first | exact .inl rfl | exact .inr rfl | assumption) : SS X K W (.Assign [.Name x pos'] e pos) (tAsg te (gName i)) (svSet i ev) := by
  obtain ⟨hK, p, g⟩ := h
  refine ⟨hK, ps_set hN hi hx p hs hf, fun E F al H σ s D rel w => (g E F al H σ s rel).esc.want w (fun d s1 v F1 al1 H1 hm r gr q w1 => ?_) fun _ _ _ _ _ h => h⟩
  exact w1 F1 al1 H1 _ (r.setIm i q) .refl
theorem ss_setO (i : Nat) {x : Str} {e : Expr} {te : TE} {ev : M Va} {pos pos' : Pos} (h : SE X K W e te ev) (hN : X.N.Nodup) (hi : X.N[i]? = some x := by rfl) (hx : Loc X.env.scope x := by first | exact Or.inl rfl | exact Or.inr rfl) (hs : swapsWith e (some (.Name x pos')) pos.line X.env = pure false := by rfl)
    (hf : X.fn x = true ∨ X.env.scope.names.lookup x = some .local := by first | exact .inl rfl | exact .inr rfl | assumption) : SS X K W (.Assign [.Name x pos'] e pos) (tAsg te (gName i)) (svSetO i ev) := by
  obtain ⟨hK, p, g⟩ := h
  refine ⟨hK, ps_set hN hi hx p hs hf, fun E F al H σ s D rel w => (g E F al H σ s rel).want w (fun d s1 v F1 al1 H1 hm r gr q w1 => ?_) fun _ _ _ _ _ h => h⟩
  cases d with
  | im d => exact w1 F1 al1 H1 _ (r.setIm i q) .refl
  | fr o =>
    obtain ⟨a, ho, e, h1, h2, h3, h4, h5, h6⟩ := q
    subst e
    exact w1 F1 al1 H1 _ (r.setOw i h1 h2 h3 h4 h5) .refl
  | pl j => exact w1.elim
theorem ss_setC (i : Nat) {x : Str} {e : Expr} {te : TE} {ev : M Va} {pos pos' : Pos} (h : SE X K W e te ev) (hN : X.N.Nodup) (hi : X.N[i]? = some x := by rfl) (hx : Loc X.env.scope x := by first | exact Or.inl rfl | exact Or.inr rfl) (hs : swapsWith e (some (.Name x pos')) pos.line X.env = pure false := by rfl)
    (hf : X.fn x = true ∨ X.env.scope.names.lookup x = some .local := by first | exact .inl rfl | exact .inr rfl | assumption) : SS X K W (.Assign [.Name x pos'] e pos) (tAsg te (gName i)) (svSetC i ev) := by
  obtain ⟨hK, p, g⟩ := h
  refine ⟨hK, ps_set hN hi hx p hs hf, fun E F al H σ s D rel w => (g E F al H σ s rel).want w (fun d s1 v F1 al1 H1 hm r gr q w1 => ?_) fun _ _ _ _ _ h => h⟩
  cases d with
  | im d => exact w1 F1 al1 H1 _ (r.setIm i q) .refl
  | fr o =>
    obtain ⟨a, ho, e, h1, h2, h3, h4, h5, h6⟩ := q
    subst e
    obtain ⟨r2, gr2, d2⟩ := r.mkCell h1 h2 h3 h4 h5
    exact w1 F1 _ H1 _ (r2.setIm i d2) gr2
  | pl j => exact w1.elim
end
end VI
end
section
set_option Elab.async false
set_option linter.all false
set_option maxRecDepth 100000
set_option maxHeartbeats 2000000
/-! V9: targets, what a loop walks, for, while. -/
namespace VI
open PySem PySem.Spec L2

/-! ### targets -/
abbrev Gv := D → S → Option S
abbrev Gvs := List D → S → Option S
def GoodG (K : PySem.W.Frag) (is : List Nat) (g : TG) (gv : Gv) : Prop := ∀ (E : Ent) (F : Hp) (al : List Addr) (H : Hp) (σ : L2.St) (s s' : S) (d : D) (v : V) (Q : L2.St → Hp → Prop), Rel K E F al H σ s → Dat K al F d v → gv d s = some s' →
  (∀ σ', Rel K E F al H σ' s' → (∀ i, i ∉ is → σ'[i]? = σ[i]? ∧ s'.env[i]? = s.env[i]?) → (∀ i p o, i ∈ is → s.env[i]? ≠ some (.ow p o) → s'.env[i]? ≠ some (.ow p o)) → σ'.length = σ.length → s'.st = s.st → Q σ' H) → g v σ H Q
def GoodGs (K : PySem.W.Frag) (is : List Nat) (g : TGs) (gv : Gvs) : Prop := ∀ (E : Ent) (F : Hp) (al : List Addr) (H : Hp) (σ : L2.St) (s s' : S) (ds : List D) (vs : List V) (Q : L2.St → Hp → Prop), Rel K E F al H σ s → DatL K al F ds vs → gv ds s = some s' →
  (∀ σ', Rel K E F al H σ' s' → (∀ i, i ∉ is → σ'[i]? = σ[i]? ∧ s'.env[i]? = s.env[i]?) → (∀ i p o, i ∈ is → s.env[i]? ≠ some (.ow p o) → s'.env[i]? ≠ some (.ow p o)) → σ'.length = σ.length → s'.st = s.st → Q σ' H) → g vs σ H Q
def SG (X : Cx) (K : PySem.W.Frag) (is : List Nat) (tg : Expr) (g : TG) (gv : Gv) : Prop := X.K = K ∧ PG X tg g ∧ GoodG K is g gv
def SGs (X : Cx) (K : PySem.W.Frag) (is : List Nat) (tgs : List Expr) (g : TGs) (gv : Gvs) : Prop := X.K = K ∧ PGs X tgs g ∧ GoodGs K is g gv
def gvName (i : Nat) : Gv := fun d s => some (setIm i d s)
def gvNil : Gvs := fun ds s => match ds with
  | [] => some s
  | _ => none
def gvCons (a : Gv) (r : Gvs) : Gvs := fun ds s => match ds with
  | d :: ds => (match a d s with
    | some s1 => r ds s1
    | none => none)
  | [] => none
def gvTup (n : Nat) (r : Gvs) : Gv := fun d s => match seqOf d with
  | some ds => if ds.length = n then r ds s else none
  | none => none
section
variable {X : Cx} {W : Wx} {K : PySem.W.Frag}
theorem PG.or {tg : Expr} {g h : TG} (a : PG X tg g) (b : PG X tg h) : PG X tg (fun v σ H Q => g v σ H Q ∨ h v σ H Q) :=
  ⟨fun pins s σ H v u Q I r hw => hw.elim (a.run pins s σ H v u Q I r) (b.run pins s σ H v u Q I r)⟩
theorem sg_name (i : Nat) {x : Str} {pos : Pos} (hN : X.N.Nodup) (hi : X.N[i]? = some x := by rfl) (hx : Loc X.env.scope x := by first | exact Or.inl rfl | exact Or.inr rfl) (hK : X.K = K := by rfl)
    (hf : X.fn x = true ∨ X.env.scope.names.lookup x = some .local := by first | exact .inl rfl | exact .inr rfl | assumption) : SG X K [i] (.Name x pos) (gName i) (gvName i) := by
  refine ⟨hK, pg_name hN hi hx hf, fun E F al H σ s s' d v Q r h e k => ?_⟩
  cases e
  refine k _ (r.setIm i h) (fun j hj => ?_) (fun j p o hj hne he => ?_) (by rw [List.length_set]) rfl
  · have ne : i ≠ j := fun z => hj (by rw [z]; exact List.mem_cons_self)
    exact ⟨List.getElem?_set_ne ne, List.getElem?_set_ne ne⟩
  · rcases set_get he with ⟨_, e2, _⟩ | ⟨_, e2⟩
    · cases e2
    · exact hne e2
theorem sgs_nil (hK : X.K = K := by rfl) : SGs X K [] [] gNil gvNil := by
  refine ⟨hK, pgs_nil, fun E F al H σ s s' ds vs Q r h e k => ?_⟩
  cases h with
  | nil => cases e; exact ⟨rfl, k σ r (fun _ _ => ⟨rfl, rfl⟩) (fun _ _ _ h => by simp at h) rfl rfl⟩
  | cons => cases e
theorem sgs_cons {is js : List Nat} {e : Expr} {es : List Expr} {t : TG} {u : TGs} {gv : Gv} {gvs : Gvs} (h1 : SG X K is e t gv) (h2 : SGs X K js es u gvs)
    (hs : (assignEach (e :: es) X.env).map (·.2) = assign e X.env :: (assignEach es X.env).map (·.2) := by rfl) : SGs X K (is ++ js) (e :: es) (gCons t u) (gvCons gv gvs) := by
  obtain ⟨hK, p, g⟩ := h1
  obtain ⟨_, q, k⟩ := h2
  refine ⟨hK, pgs_cons p q hs, fun E F al H σ s s' ds vs Q r h e kk => ?_⟩
  cases h with
  | nil => cases e
  | cons hd hl =>
    rename_i d v ds vs
    have e : (match gv d s with
      | some s1 => gvs ds s1
      | none => none) = some s' := e
    cases h1 : gv d s with
    | none => rw [h1] at e; cases e
    | some s1 =>
      rw [h1] at e
      refine ⟨v, vs, rfl, g E F al H σ s s1 d v _ r hd h1 fun σ1 r1 a1 b1 c1 d1 => ?_⟩
      refine k E F al H σ1 s1 s' ds vs _ r1 hl e fun σ2 r2 a2 b2 c2 d2 => kk σ2 r2 (fun i hi => ?_) (fun i p o hi hne => ?_) (c2.trans c1) (d2.trans d1)
      · have n1 : i ∉ is := fun z => hi (List.mem_append_left _ z)
        have n2 : i ∉ js := fun z => hi (List.mem_append_right _ z)
        exact ⟨(a2 i n2).1.trans (a1 i n1).1, (a2 i n2).2.trans (a1 i n1).2⟩
      · have q1 : s1.env[i]? ≠ some (.ow p o) := by
          by_cases z : i ∈ is
          · exact b1 i p o z hne
          · rw [(a1 i z).2]; exact hne
        by_cases z : i ∈ js
        · exact b2 i p o z q1
        · rw [(a2 i z).2]; exact q1
def gTupX (K : PySem.W.Frag) (n : Nat) (t : TGs) : TG := fun v σ H Q => gTup K n t v σ H Q ∨ gLst K n t v σ H Q
theorem sg_tup {is : List Nat} {es : List Expr} {k : Nat} {t : TGs} {gvs : Gvs} {pos : Pos} (n : Nat) (h : SGs X K is es t gvs) (hc : X.calm = true := by rfl)
    (hn : (assignEach es X.env).length = n := by rfl) (hst : (assignEach es X.env).findIdx? (·.1) = none := by rfl) : SG X K is (.Tuple es k pos) (gTupX K n t) (gvTup n gvs) := by
  obtain ⟨rfl, p, g⟩ := h
  refine ⟨rfl, PG.or (pg_tup hc p hn hst) (pg_lst hc p hn hst), fun E F al H σ s s' d v Q r h e kk => ?_⟩
  unfold gvTup at e
  split at e
  · rename_i ds hd
    split at e
    · rename_i hl
      unfold seqOf at hd
      split at hd <;> (try cases hd)
      · cases h with
        | lst q l z => exact .inr ⟨_, _, rfl, .of (r.sub.here q (fun z => z)), by rw [← l.length]; exact hl, g E F al H σ s s' _ _ Q r l e kk⟩
      · cases h with
        | tup q l z => exact .inl ⟨_, _, rfl, .of (r.sub.here q (fun z => z)), by rw [← l.length]; exact hl, g E F al H σ s s' _ _ Q r l e kk⟩
      · cases h with
        | lz q l z => exact .inr ⟨_, _, rfl, r.sub.seqL q, by rw [← l.length]; exact hl, g E F al H σ s s' _ _ Q r l e kk⟩
      · cases h with
        | tz q l z => exact .inl ⟨_, _, rfl, r.sub.seqT q, by rw [← l.length]; exact hl, g E F al H σ s s' _ _ Q r l e kk⟩
    · cases e
  · cases e
end

/-! ### enumerate(text) -/
def ItS (z : Str) : It := ⟨fun i _ => i < z.cps.size, fun i H v H' => ∃ T c, v = .ref T ∧ H T = none ∧ H' = upd H T (.tup [.int (i : Nat), .str ⟨#[c]⟩]) ∧ z.cps[i]? = some c, fun i _ => z.cps.size ≤ i⟩
theorem turn_enumS {P : Program} {w : World} {K : PySem.W.Frag} {elts : List Expr} {kk : Nat} {tpos : Pos} (z : Str) (t : Tok) (e it : Addr) :
    Turn P w K (.Tuple elts kk tpos) (ItS z) [e, it] e (fun i h => (∃ old, IsEnum h e it ((i : Nat) : Int) old) ∧ h.IsStrIter it (PySem.strIterType z) z t i ∧ e ≠ it ∧ i ≤ z.cps.size) where
  mem := by simp
  obj := fun i h st b hb => by
    obtain ⟨⟨old, he⟩, ⟨o, ho, hc, hd⟩, _⟩ := st
    have e' : b = e ∨ b = it := by simpa using hb
    rcases e' with z | z
    · rw [z]; exact ⟨_, he, fun v q => nomatch q⟩
    · rw [z]; exact ⟨o, ho, fun v q => by rw [hd] at q; cases q⟩
  keep := fun i h h' st k => let ⟨⟨old, he⟩, ⟨o, ho, r⟩, hne⟩ := st; ⟨⟨old, k e (by simp) _ he⟩, ⟨o, k it (by simp) o ho, r⟩, hne⟩
  item := by
    intro X hP hw hK hc i pins s σ H E I hf st hg
    subst hP hw hK
    obtain ⟨⟨old, he⟩, hit, hne, hle⟩ := st
    have hel : e < s.heap.objs.size := Heap.lt_size he
    have hil : it < s.heap.objs.size := by obtain ⟨_, q, _⟩ := hit; exact Heap.lt_size q
    have hh : X.A.in1.handled = none := I.ok.hd hc
    have D : Draws X.prog X.w X.A.in1 it [it] z.cps.size (fun i v => ∃ c u, z.cps[i]? = some c ∧ v = .str ⟨#[c]⟩ u) (fun i h => h.IsStrIter it (PySem.strIterType z) z t i) := by
      unfold PySem.strIterType
      cases ha : z.cps.all (· < 128)
      · exact Draws.strWide hh it z t
      · exact Draws.strAscii hh it z t
    refine wpAny_pyNext_enum_itemD D he hit hg hne (by simpa using hne) fun x h' tk hx ho hit' hT hsz hk => ?_
    obtain ⟨c, u, hcx, rfl⟩ := hx
    refine ⟨_, rfl, wpAny_letOwnedTupleGo_enum (s := { s with heap := h', toks := tk + 1 }) ho fun h'' he' sb => ?_⟩
    have hT2 : h''.get? s.heap.objs.size = some { cls := .type "tuple", data := .seq #[.int i tk, .str ⟨#[c]⟩ u] } := (sb.2 _ (Nat.ne_of_gt hel)).trans hT
    have new : ObjOk X.prog X.w (upd H s.heap.objs.size (.tup [.int (i : Nat), .str ⟨#[c]⟩])) h'' s.heap.objs.size (.tup [.int (i : Nat), .str ⟨#[c]⟩]) :=
      ⟨by show 2 ≤ sizeLine; decide, [.int i tk, .str ⟨#[c]⟩ u], .cons ⟨_, rfl⟩ (.cons ⟨_, rfl⟩ .nil), ⟨_, hT2, rfl, _, rfl⟩⟩
    have I1 : Inv X pins σ (upd H s.heap.objs.size (.tup [.int (i : Nat), .str ⟨#[c]⟩])) { s with heap := h'', toks := tk + 1 } :=
      I.turnedNew (ch := [e, it]) (fun b ob hb q => (sb.2 b (fun z => hb (by simp [z]))).trans (hk b ob (fun z => hb (by simp [z])) (fun z => hb (by simp [z])) q)) hf (Nat.le_refl _) new
    refine ⟨.ref s.heap.objs.size, _, I1, rfl, ⟨_, c, rfl, I.hok.fresh (Nat.le_refl _), rfl, hcx⟩, ⟨⟨.str ⟨#[c]⟩ u, ?_⟩, ?_, hne, hg⟩, fun b hb => ?_⟩
    · have e1 : ((i + 1 : Nat) : Int) = (i : Int) + 1 := by omega
      rw [e1]; exact he'
    · obtain ⟨o2, ho2, r2⟩ := hit'
      exact ⟨o2, (sb.2 it (Ne.symm hne)).trans ho2, r2⟩
    · have hb' : b < s.heap.objs.size := by
        have e' : b = e ∨ b = it := by simpa using hb
        rcases e' with z | z
        · rw [z]; exact hel
        · rw [z]; exact hil
      rw [upd_ne (Nat.ne_of_lt hb')]
      exact (hf b hb).1
  done := by
    intro X hP hw hK hc i pins s σ H E I hf st hg
    subst hP hw hK
    obtain ⟨⟨old, he⟩, hit, hne, hle⟩ := st
    obtain ⟨f0, f1, f2, f3, f4, f5⟩ := hf it (by simp)
    have hh : X.A.in1.handled = none := I.ok.hd hc
    have D : Draws X.prog X.w X.A.in1 it [it] z.cps.size (fun i v => ∃ c u, z.cps[i]? = some c ∧ v = .str ⟨#[c]⟩ u) (fun i h => h.IsStrIter it (PySem.strIterType z) z t i) := by
      unfold PySem.strIterType
      cases ha : z.cps.all (· < 128)
      · exact Draws.strWide hh it z t
      · exact Draws.strAscii hh it z t
    have e : i = z.cps.size := Nat.le_antisymm hle hg
    subst e
    refine wpAny_pyNext_enum_endD D he hit fun h' eb => ⟨rfl, I.turned (t' := s.toks) (fun b o hb q => eb b o hb q) f0 f1 f3 f4 f5⟩
  self := fun A i s Q E st h => let ⟨⟨_, he⟩, _⟩ := st; wpAny_pyIter_enum he h
/-- enumerate of a list or a text -/
def iEnumX (K : PySem.W.Frag) (ta : TA) : TI := fun σ H R => ta σ H fun vs H1 => (∃ a xs, vs = [.ref a] ∧ SqL K H1 a xs ∧ R (Ite K a) H1) ∨ ∃ z, vs = [.str z] ∧ R (ItS z) H1
theorem pi_enumX {X : Cx} {e : Expr} {ta : TA} {p pos tpos : Pos} {elts : List Expr} {kk : Nat} (hg : Gl X "enumerate") (hm : X.mg "enumerate" = none) (ha : PA X [e] ta) (hs : starEach [e] X.env = [(false, eval e X.env)] := by rfl) :
    PI X (.Tuple elts kk tpos) (.Call (.Name "enumerate" p) [e] [] pos) (iEnumX X.K ta) := by
  refine ⟨fun pins s σ H R I h => ?_⟩
  refine PyProof.Rows.Call_ (ld_blt I hg hm PyProof.Rows.boot_enumerate (PyProof.Rows.callWith_type1 (thn (ha.run pos pins s σ H _ I h) fun us s1 ⟨vs, H1, I1, r1, q1⟩ => ?_) hs rfl))
  have own : ∀ b ∈ [s1.heap.objs.size + 1, s1.heap.objs.size], FpOk X pins H1 b := fun b hb => by
    have e' : b = s1.heap.objs.size + 1 ∨ b = s1.heap.objs.size := by simpa using hb
    have hle : s1.heap.objs.size ≤ b := by
      rcases e' with z | z
      · rw [z]; exact Nat.le_add_right _ _
      · rw [z]; exact Nat.le_refl _
    exact I1.fpOk hle (I1.hok.fresh hle)
  rcases q1 with ⟨a, xs, ex, hq, q⟩ | ⟨z, ex, q⟩
  · subst ex
    cases r1 with
    | cons r rr =>
      cases rr
      cases r
      obtain ⟨its, rv, p', hz⟩ := I1.list hq
      refine call_enumerate_list p'.isList fun h' he hit hsz hk => wpAny_pyIter_enum he ?_
      have I2 : Inv X pins σ H1 { s1 with heap := h' } := I1.kept (t' := s1.toks) hk
      exact ⟨s1.heap.objs.size + 1, [s1.heap.objs.size + 1, s1.heap.objs.size], _, _, H1, rfl, I2, turn_enum a (s1.heap.objs.size + 1) s1.heap.objs.size, ⟨⟨.none, he⟩, hit, Nat.succ_ne_self _⟩, own, q⟩
  · subst ex
    cases r1 with
    | cons r rr =>
      cases rr
      obtain ⟨t, rfl⟩ := r
      refine call_enumerate_str fun h' he hit hsz hk => wpAny_pyIter_enum he ?_
      have I2 : Inv X pins σ H1 { s1 with heap := h' } := I1.kept (t' := s1.toks) hk
      exact ⟨s1.heap.objs.size + 1, [s1.heap.objs.size + 1, s1.heap.objs.size], _, _, H1, rfl, I2, turn_enumS z t (s1.heap.objs.size + 1) s1.heap.objs.size, ⟨⟨.none, he⟩, hit, Nat.succ_ne_self _, Nat.zero_le _⟩, own, q⟩

/-! ### what is walked -/
/-- the iterator J gives these data -/
structure ItR (K : PySem.W.Frag) (al0 : List Addr) (F0 : Hp) (J : It) (ds : List D) : Prop where
  go : ∀ (i : Nat) (E : Ent) (F : Hp) (al : List Addr) (H : Hp) (σ : L2.St) (s : S), i < ds.length → Rel K E F al H σ s → Gr al0 F0 al F → J.go i H
  stop : ∀ (E : Ent) (F : Hp) (al : List Addr) (H : Hp) (σ : L2.St) (s : S), Rel K E F al H σ s → Gr al0 F0 al F → J.stop ds.length H
  yld : ∀ (i : Nat) (d : D) (E : Ent) (F : Hp) (al : List Addr) (H : Hp) (σ : L2.St) (s : S) (x : V) (H' : Hp), ds[i]? = some d → Rel K E F al H σ s → Gr al0 F0 al F → J.yld i H x H' →
    ∃ F', Rel K E F' al H' σ s ∧ Stp σ s s F al H F' al H' ∧ (∀ a o, H a = some o → H' a = some o) ∧ Dat K al F' d x
theorem ItR.mono {K : PySem.W.Frag} {al0 al1 : List Addr} {F0 F1 : Hp} {J : It} {ds : List D} (h : ItR K al0 F0 J ds) (g : Gr al0 F0 al1 F1) : ItR K al1 F1 J ds :=
  ⟨fun i E F al H σ s a b c => h.go i E F al H σ s a b (g.trans c), fun E F al H σ s b c => h.stop E F al H σ s b (g.trans c), fun i d E F al H σ s x H' a b c => h.yld i d E F al H σ s x H' a b (g.trans c)⟩
abbrev IR (K : PySem.W.Frag) : Hp → List Addr → Hp → Hp → S → It → List D → Prop := fun _ al F _ _ J ds => ItR K al F J ds
theorem IR.low {K : PySem.W.Frag} : Low (IR K) := fun _ _ _ _ _ _ _ _ _ r => r
def GoodI (K : PySem.W.Frag) (W : Wx) (wi : TI) (ev : M (List D)) : Prop := ∀ (E : Ent) (F : Hp) (al : List Addr) (H : Hp) (σ : L2.St) (s : S), Rel K E F al H σ s → Sat K E W (IR K) F al H σ s (wi σ H) (ev s)
def SI (X : Cx) (K : PySem.W.Frag) (W : Wx) (tg iter : Expr) (wi : TI) (ev : M (List D)) : Prop := X.K = K ∧ PI X tg iter wi ∧ GoodI K W wi ev
def pick {α β : Type} (f : α → Option β) (a : α) : M β := fun s => match f a with
  | some b => .ok b s
  | none => .no
/-- a sequence or a text, item by item -/
def itOf : D → Option (List D)
  | .str z => if z.length ≤ sizeLine then some (z.cps.toList.map fun c => .str ⟨#[c]⟩) else none
  | d => seqOf d
def evIt (m : M Va) : M (List D) := (m >>= esc) >>= fun d s => match itOf d with
  | some ds => .ok ds s
  | none => .no
def iAny (K : PySem.W.Frag) (te : TE) : TI := fun σ H R => te σ H fun x H1 => (∃ a, x = .ref a ∧ (∃ xs, SqL K H1 a xs) ∧ R (Itl K a) H1) ∨ (∃ a, x = .ref a ∧ (∃ xs, SqT K H1 a xs) ∧ R (Itt K a) H1) ∨ (∃ z, x = .str z ∧ R (Its z) H1)
section
variable {X : Cx} {W : Wx} {K : PySem.W.Frag}
theorem pi_any {tg l : Expr} {tl : TE} (hl : PE X l tl) : PI X tg l (iAny X.K tl) := by
  refine ⟨fun pins s σ H R I h => ?_⟩
  refine thn (hl.run pins s σ H _ I h) fun v s1 ⟨x, H1, I1, r1, q1⟩ => ?_
  rcases q1 with ⟨a, e, ⟨xs, hq⟩, q⟩ | ⟨a, e, ⟨xs, hq⟩, q⟩ | ⟨z, e, q⟩
  · subst e
    cases r1
    obtain ⟨its, rv, p, hz⟩ := I1.list hq
    exact wpAny_pyIter_list p.isList (pi_one (tk := s1.toks) I1 _ (turn_list a _) ⟨_, Heap.get?_push_size _ rfl, rfl, rfl⟩ q)
  · subst e
    cases r1
    obtain ⟨its, rv, p, hz⟩ := I1.tuple hq
    exact wpAny_pyIter_tuple (show s1.heap.IsTuple a its.toArray from p) (pi_one (tk := s1.toks) I1 _ (turn_tuple a _) ⟨_, Heap.get?_push_size _ rfl, rfl, rfl⟩ q)
  · subst e
    obtain ⟨t, rfl⟩ := r1
    cases ha : z.cps.all (· < 128)
    · exact PySem.wpAny_pyIter_wide ha (pi_one (tk := s1.toks) I1 _ (turn_str _ z t "str_iterator" (.inr rfl)) ⟨_, Heap.get?_push_size _ rfl, rfl, rfl⟩ q)
    · exact PySem.wpAny_pyIter_ascii ha (pi_one (tk := s1.toks) I1 _ (turn_str _ z t "str_ascii_iterator" (.inl rfl)) ⟨_, Heap.get?_push_size _ rfl, rfl, rfl⟩ q)
theorem itr_walk {J : It} {n : Nat} {G : Hp → Prop} {Y : Nat → Hp → V → Hp → Prop} (w : Walk J n G Y) {al0 : List Addr} {F0 : Hp} {ds : List D} (hn : ds.length = n) (hG : ∀ (F : Hp) (al : List Addr) (H : Hp), Sub F H → Gr al0 F0 al F → G H)
    (hY : ∀ (i : Nat) (d : D) (E : Ent) (F : Hp) (al : List Addr) (H : Hp) (σ : L2.St) (s : S) (x : V) (H' : Hp), ds[i]? = some d → Rel K E F al H σ s → Gr al0 F0 al F → Y i H x H' →
      ∃ F', Rel K E F' al H' σ s ∧ Stp σ s s F al H F' al H' ∧ (∀ a o, H a = some o → H' a = some o) ∧ Dat K al F' d x) : ItR K al0 F0 J ds := by
  subst hn
  refine ⟨fun i E F al H σ s hi r g => w.goes i H hi (hG F al H r.sub g), fun E F al H σ s r g => w.stops H (hG F al H r.sub g), fun i d E F al H σ s x H' hd r g y => ?_⟩
  exact hY i d E F al H σ s x H' hd r g (w.yields i H x H' (List.getElem?_eq_some_iff.mp hd).1 (hG F al H r.sub g) y)
theorem y_at {al0 : List Addr} {F0 : Hp} {ds : List D} {vs : List V} (l : DatL K al0 F0 ds vs) : ∀ (i : Nat) (d : D) (E : Ent) (F : Hp) (al : List Addr) (H : Hp) (σ : L2.St) (s : S) (x : V) (H' : Hp), ds[i]? = some d → Rel K E F al H σ s → Gr al0 F0 al F → YAt vs i H x H' →
    ∃ F', Rel K E F' al H' σ s ∧ Stp σ s s F al H F' al H' ∧ (∀ a o, H a = some o → H' a = some o) ∧ Dat K al F' d x := fun i d E F al H σ s x H' hd r g y => by
  obtain ⟨rfl, hx⟩ := y
  obtain ⟨v, hv, dv⟩ := l.getD (i := i) hd
  rw [hx] at hv
  cases hv
  exact ⟨F, r, .refl, fun _ _ h => h, dv.mono g⟩
theorem two_le {a b : D} : [a, b].length ≤ sizeLine := by show 2 ≤ sizeLine; decide
/-- new pairs -/
theorem y_pair {al0 : List Addr} {F0 : Hp} {ds : List D} {f g : Nat → Option V} (hp : ∀ (i : Nat) (d : D) (x y : V), ds[i]? = some d → f i = some x → g i = some y → ∃ a b, d = .tup [a, b] ∧ Dat K al0 F0 a x ∧ Dat K al0 F0 b y) : ∀ (i : Nat) (d : D) (E : Ent) (F : Hp) (al : List Addr) (H : Hp) (σ : L2.St) (s : S) (x : V) (H' : Hp), ds[i]? = some d → Rel K E F al H σ s → Gr al0 F0 al F → YPair f g i H x H' →
    ∃ F', Rel K E F' al H' σ s ∧ Stp σ s s F al H F' al H' ∧ (∀ a o, H a = some o → H' a = some o) ∧ Dat K al F' d x := fun i d E F al H σ s x H' hd r gr y => by
  obtain ⟨T, u, w, rfl, hT, rfl, hu, hw⟩ := y
  obtain ⟨a, b, rfl, da, db⟩ := hp i d u w hd hu hw
  have hf := r.sub.free hT
  have g2 : Gr al F al (upd F T (.tup [u, w])) := .new hf
  exact ⟨_, r.new hT, .new hT hf, fun b o h => by rw [upd_ne (ne_of_none h hT)]; exact h, .tup upd_same (.cons ((da.mono gr).mono g2) (.cons ((db.mono gr).mono g2) .nil)) two_le⟩
theorem itr_str {al0 : List Addr} {F0 : Hp} {z : Str} : ItR K al0 F0 (Its z) (z.cps.toList.map fun c => .str ⟨#[c]⟩) := by
  refine itr_walk walk_str (by simp) (fun _ _ _ _ _ => True.intro) fun i d E F al H σ s x H' hd r g y => ?_
  obtain ⟨rfl, c, hc, rfl⟩ := y
  simp only [List.getElem?_map, Array.getElem?_toList, hc, Option.map_some, Option.some.injEq] at hd
  subst hd
  exact ⟨F, r, .refl, fun _ _ h => h, .str _⟩
theorem si_any {tg e : Expr} {ev : M Va} (h : SE X K W e th ev) : SI X K W tg e (iAny K th) (evIt ev) := by
  obtain ⟨rfl, p, g⟩ := h
  refine ⟨rfl, pi_any p, fun E F al H σ s rel => ?_⟩
  refine Sat.bind (u := fun x H1 R => (∃ a, x = .ref a ∧ (∃ xs, SqL X.K H1 a xs) ∧ R (Itl X.K a) H1) ∨ (∃ a, x = .ref a ∧ (∃ xs, SqT X.K H1 a xs) ∧ R (Itt X.K a) H1) ∨ (∃ z, x = .str z ∧ R (Its z) H1)) IR.low (g E F al H σ s rel).esc fun d s1 w F1 al1 H1 _ rel1 st1 v1 => ?_
  cases hd : itOf d with
  | none => exact True.intro
  | some ds =>
    refine fun R hR => ?_
    have v1 : Dat X.K al1 F1 d w := v1
    unfold itOf at hd
    split at hd
    · split at hd
      · rename_i z hz
        cases hd
        cases v1
        exact .inr (.inr ⟨_, rfl, hR _ F1 al1 H1 rel1 .refl itr_str⟩)
      · cases hd
    · unfold seqOf at hd
      split at hd <;> (try cases hd)
      · cases v1 with
        | lst q l z => exact .inl ⟨_, rfl, ⟨_, .of (rel1.sub.here q fun z => z)⟩, hR _ F1 al1 H1 rel1 .refl (itr_walk walk_list l.length (fun F al H sb gr => .of (sb.here (gr.f _ _ q) fun z => z)) (y_at l))⟩
      · cases v1 with
        | tup q l z => exact .inr (.inl ⟨_, rfl, ⟨_, .of (rel1.sub.here q fun z => z)⟩, hR _ F1 al1 H1 rel1 .refl (itr_walk walk_tup l.length (fun F al H sb gr => .of (sb.here (gr.f _ _ q) fun z => z)) (y_at l))⟩)
      · cases v1 with
        | lz q l z => exact .inl ⟨_, rfl, ⟨_, rel1.sub.seqL q⟩, hR _ F1 al1 H1 rel1 .refl (itr_walk walk_list l.length (fun F al H sb gr => sb.seqL (gr.seqL q)) (y_at l))⟩
      · cases v1 with
        | tz q l z => exact .inr (.inl ⟨_, rfl, ⟨_, rel1.sub.seqT q⟩, hR _ F1 al1 H1 rel1 .refl (itr_walk walk_tup l.length (fun F al H sb gr => sb.seqT (gr.seqT q)) (y_at l))⟩)
/-- lo, lo + 1, .. -/
def rngD (lo : Int) (n : Nat) : List D := (List.range n).map fun (i : Nat) => .int (lo + i)
theorem itr_range {al0 : List Addr} {F0 : Hp} {lo : Int} {n : Nat} : ItR K al0 F0 (Itr lo n) (rngD lo n) := by
  refine itr_walk walk_range (by simp [rngD]) (fun _ _ _ _ _ => True.intro) fun i d E F al H σ s x H' hd r g y => ?_
  obtain ⟨rfl, rfl⟩ := y
  have hi : i < n := by simpa [rngD] using (List.getElem?_eq_some_iff.mp hd).1
  simp only [rngD, List.getElem?_map, List.getElem?_range hi, Option.map_some, Option.some.injEq] at hd
  subst hd
  exact ⟨F, r, .refl, fun _ _ h => h, .int _⟩
def rng1 : List D → Option (List D)
  | [.int j] => if -(2 ^ 62) ≤ j ∧ j < 2 ^ 62 then some (rngD 0 j.toNat) else none
  | _ => none
def rng2 : List D → Option (List D)
  | [.int i, .int j] => if -(2 ^ 62) ≤ i ∧ i < 2 ^ 62 ∧ -(2 ^ 62) ≤ j ∧ j < 2 ^ 62 then some (rngD i (j - i).toNat) else none
  | _ => none
def evRng1 (m : M (List D)) : M (List D) := m >>= pick rng1
def evRng2 (m : M (List D)) : M (List D) := m >>= pick rng2
theorem si_range1 {tg a : Expr} {evs : M (List D)} {p pos : Pos} (h : SA X K W [a] th evs) (hg : Gl X "range" := by rfl) (hm : X.mg "range" = none := by rfl) (hs : starEach [a] X.env = [(false, eval a X.env)] := by rfl) : SI X K W tg (.Call (.Name "range" p) [a] [] pos) (iRng1 th) (evRng1 evs) := by
  obtain ⟨rfl, pa, g⟩ := h
  refine ⟨rfl, pi_range1 hg hm pa hs, fun E F al H σ s rel => ?_⟩
  refine Sat.bind (u := fun vs H1 R => ∃ j : Int, vs = [.int j] ∧ -(2 ^ 62) ≤ j ∧ j < 2 ^ 62 ∧ R (Itr 0 j.toNat) H1) IR.low (g E F al H σ s rel) fun ds s1 ws F1 al1 H1 _ rel1 st1 v1 => ?_
  unfold pick
  cases hp : rng1 ds with
  | none => exact True.intro
  | some ys =>
    unfold rng1 at hp
    split at hp
    · split at hp
      · rename_i j _ hj
        cases hp
        have v1 : DatL X.K al1 F1 [.int j] ws := v1
        obtain _ | ⟨h1, h2⟩ := v1
        cases h1; cases h2
        exact fun R hR => ⟨j, rfl, hj.1, hj.2, hR _ F1 al1 H1 rel1 .refl itr_range⟩
      · cases hp
    · cases hp
theorem si_range2 {tg a b : Expr} {evs : M (List D)} {p pos : Pos} (h : SA X K W [a, b] th evs) (hg : Gl X "range" := by rfl) (hm : X.mg "range" = none := by rfl) (hs : starEach [a, b] X.env = [(false, eval a X.env), (false, eval b X.env)] := by rfl) (hs2 : starEach [b] X.env = [(false, eval b X.env)] := by rfl) : SI X K W tg (.Call (.Name "range" p) [a, b] [] pos) (iRng2 th) (evRng2 evs) := by
  obtain ⟨rfl, pa, g⟩ := h
  refine ⟨rfl, pi_range2 hg hm pa hs hs2, fun E F al H σ s rel => ?_⟩
  refine Sat.bind (u := fun vs H1 R => ∃ i j : Int, vs = [.int i, .int j] ∧ (-(2 ^ 62) ≤ i ∧ i < 2 ^ 62 ∧ -(2 ^ 62) ≤ j ∧ j < 2 ^ 62) ∧ R (Itr i (j - i).toNat) H1) IR.low (g E F al H σ s rel) fun ds s1 ws F1 al1 H1 _ rel1 st1 v1 => ?_
  unfold pick
  cases hp : rng2 ds with
  | none => exact True.intro
  | some ys =>
    unfold rng2 at hp
    split at hp
    · split at hp
      · rename_i i j _ hj
        cases hp
        have v1 : DatL X.K al1 F1 [.int i, .int j] ws := v1
        obtain _ | ⟨h1, h2⟩ := v1
        obtain _ | ⟨h2, h3⟩ := h2
        cases h1; cases h2; cases h3
        exact fun R hR => ⟨i, j, rfl, hj, hR _ F1 al1 H1 rel1 .refl itr_range⟩
      · cases hp
    · cases hp
def enumD (ds : List D) : List D := (List.range ds.length).zipWith (fun (i : Nat) d => .tup [.int i, d]) ds
def enum1 : List D → Option (List D)
  | [.lst xs] => some (enumD xs)
  | [.lz xs] => some (enumD xs)
  | [.str z] => if z.length ≤ sizeLine then some (enumD (z.cps.toList.map fun c => .str ⟨#[c]⟩)) else none
  | _ => none
def evEnum (m : M (List D)) : M (List D) := m >>= pick enum1
theorem itr_enum {al0 : List Addr} {F0 : Hp} {a : Addr} {ds : List D} {vs : List V} (q : SqL K F0 a vs) (l : DatL K al0 F0 ds vs) : ItR K al0 F0 (Ite K a) (enumD ds) := by
  refine itr_walk (walk_enum (xs := vs)) (by simp [enumD, l.length]) (fun F al H sb gr => sb.seqL (gr.seqL q)) (y_pair fun i d x y hd hx hy => ?_)
  cases hx
  obtain ⟨b, hb, db⟩ := l.get hy
  have hi : i < ds.length := (List.getElem?_eq_some_iff.mp hb).1
  simp only [enumD, List.getElem?_zipWith, List.getElem?_range hi, hb, Option.some.injEq] at hd
  exact ⟨_, _, hd.symm, .int _, db⟩
theorem itr_enumS {al0 : List Addr} {F0 : Hp} {z : Str} : ItR K al0 F0 (ItS z) (enumD (z.cps.toList.map fun c => .str ⟨#[c]⟩)) := by
  have hl : (enumD (z.cps.toList.map fun c => .str ⟨#[c]⟩)).length = z.cps.size := by simp [enumD]
  refine ⟨fun i E F al H σ s hi r g => (by rw [hl] at hi; exact hi), fun E F al H σ s r g => (Nat.le_of_eq hl.symm), fun i d E F al H σ s x H' hd r gr y => ?_⟩
  obtain ⟨T, c, rfl, hT, rfl, hc⟩ := y
  have hi : i < z.cps.size := by rw [← hl]; exact (List.getElem?_eq_some_iff.mp hd).1
  simp only [enumD, List.getElem?_zipWith, List.length_map, Array.length_toList, List.getElem?_range hi, List.getElem?_map, Array.getElem?_toList, hc, Option.map_some, Option.some.injEq] at hd
  subst hd
  have hf := r.sub.free hT
  exact ⟨_, r.new hT, .new hT hf, fun b o h => by rw [upd_ne (ne_of_none h hT)]; exact h, .tup upd_same (.cons (.int _) (.cons (.str _) .nil)) two_le⟩
theorem si_enum {e : Expr} {elts : List Expr} {kk : Nat} {evs : M (List D)} {p pos tpos : Pos} (h : SA X K W [e] th evs) (hg : Gl X "enumerate" := by rfl) (hm : X.mg "enumerate" = none := by rfl) (hs : starEach [e] X.env = [(false, eval e X.env)] := by rfl) : SI X K W (.Tuple elts kk tpos) (.Call (.Name "enumerate" p) [e] [] pos) (iEnumX K th) (evEnum evs) := by
  obtain ⟨rfl, pa, g⟩ := h
  refine ⟨rfl, pi_enumX hg hm pa hs, fun E F al H σ s rel => ?_⟩
  refine Sat.bind (u := fun vs H1 R => (∃ a xs, vs = [.ref a] ∧ SqL X.K H1 a xs ∧ R (Ite X.K a) H1) ∨ ∃ z, vs = [.str z] ∧ R (ItS z) H1) IR.low (g E F al H σ s rel) fun ds s1 ws F1 al1 H1 _ rel1 st1 v1 => ?_
  have v1 : DatL X.K al1 F1 ds ws := v1
  unfold pick
  cases hp : enum1 ds with
  | none => exact True.intro
  | some ys =>
    unfold enum1 at hp
    split at hp
    · rename_i xs
      cases hp
      obtain _ | ⟨h1, h2⟩ := v1
      cases h2
      cases h1 with
      | lst q l z => exact fun R hR => .inl ⟨_, _, rfl, .of (rel1.sub.here q fun z => z), hR _ F1 al1 H1 rel1 .refl (itr_enum (.of q) l)⟩
    · rename_i xs
      cases hp
      obtain _ | ⟨h1, h2⟩ := v1
      cases h2
      cases h1 with
      | lz q l z => exact fun R hR => .inl ⟨_, _, rfl, rel1.sub.seqL q, hR _ F1 al1 H1 rel1 .refl (itr_enum q l)⟩
    · split at hp
      · rename_i z hz
        cases hp
        obtain _ | ⟨h1, h2⟩ := v1
        cases h2
        cases h1
        exact fun R hR => .inr ⟨_, rfl, hR _ F1 al1 H1 rel1 .refl itr_enumS⟩
      · cases hp
    · cases hp
/-- zip -/
def zipD (xs ys : List D) : List D := xs.zipWith (fun a b => .tup [a, b]) ys
def lOf : D → Option (List D)
  | .lst xs => some xs
  | .lz xs => some xs
  | _ => none
def tOf : D → Option (List D)
  | .tup xs => some xs
  | .tz xs => some xs
  | _ => none
theorem lOf_ok {al : List Addr} {F : Hp} {d : D} {w : V} {xs : List D} (v : Dat K al F d w) (h : lOf d = some xs) : ∃ a vs, w = .ref a ∧ SqL K F a vs ∧ DatL K al F xs vs := by
  unfold lOf at h
  split at h <;> cases h
  · cases v with
    | lst q l z => exact ⟨_, _, rfl, .of q, l⟩
  · cases v with
    | lz q l z => exact ⟨_, _, rfl, q, l⟩
theorem tOf_ok {al : List Addr} {F : Hp} {d : D} {w : V} {xs : List D} (v : Dat K al F d w) (h : tOf d = some xs) : ∃ a vs, w = .ref a ∧ SqT K F a vs ∧ DatL K al F xs vs := by
  unfold tOf at h
  split at h <;> cases h
  · cases v with
    | tup q l z => exact ⟨_, _, rfl, .of q, l⟩
  · cases v with
    | tz q l z => exact ⟨_, _, rfl, q, l⟩
def zip1 : List D → Option (List D)
  | [a, b] => (match lOf a, lOf b with
    | some xs, some ys => some (zipD xs ys)
    | _, _ => (match tOf a, tOf b with
      | some xs, some ys => some (zipD xs ys)
      | _, _ => none))
  | _ => none
def evZip (m : M (List D)) : M (List D) := m >>= pick zip1
theorem zip_get {xs ys : List D} {vs us : List V} {al0 : List Addr} {F0 : Hp} (l1 : DatL K al0 F0 xs vs) (l2 : DatL K al0 F0 ys us) (i : Nat) (d : D) (x y : V) (hd : (zipD xs ys)[i]? = some d) (hx : vs[i]? = some x) (hy : us[i]? = some y) : ∃ a b, d = .tup [a, b] ∧ Dat K al0 F0 a x ∧ Dat K al0 F0 b y := by
  obtain ⟨a, ha, da⟩ := l1.get hx
  obtain ⟨b, hb, db⟩ := l2.get hy
  simp only [zipD, List.getElem?_zipWith, ha, hb, Option.some.injEq] at hd
  exact ⟨a, b, hd.symm, da, db⟩
theorem walk_zipT {a b : Addr} {xs ys : List V} {n : Nat} (hn : n = min xs.length ys.length) : Walk (RZ.ItzT K a b) n (fun H => SqT K H a xs ∧ SqT K H b ys) (YPair (fun i => xs[i]?) (fun i => ys[i]?)) := by
  subst hn
  refine ⟨fun i _ hi q => ?_, fun _ q => ⟨xs, ys, q.1, q.2, by omega⟩, fun i H v H' _ q y => ?_⟩
  · have h1 : i < xs.length := by omega
    have h2 : i < ys.length := by omega
    exact ⟨xs, ys, xs[i], ys[i], q.1, q.2, by simp [h1], by simp [h2]⟩
  · obtain ⟨T, x, z, h1, h2, h3, h4, h5⟩ := y
    exact ⟨T, x, z, h1, h2, h3, h4 xs q.1, h5 ys q.2⟩
theorem si_zip {e e2 : Expr} {elts : List Expr} {kk : Nat} {evs : M (List D)} {p pos tpos : Pos} (h : SA X K W [e, e2] th evs) (hg : Gl X "zip" := by rfl) (hm : X.mg "zip" = none := by rfl)
    (hs : starEach [e, e2] X.env = (false, eval e X.env) :: starEach [e2] X.env := by rfl) (hpl : (backTo pos (starEach [e2] X.env)).any (·.1) = false := by rfl) : SI X K W (.Tuple elts kk tpos) (.Call (.Name "zip" p) [e, e2] [] pos) (RZ.iZipA K th) (evZip evs) := by
  obtain ⟨rfl, pa, g⟩ := h
  refine ⟨rfl, RZ.pi_zipA hg hm pa hs hpl, fun E F al H σ s rel => ?_⟩
  refine Sat.bind (u := fun vs H1 R => ∃ a b xs ys, vs = [.ref a, .ref b] ∧ ((SqL X.K H1 a xs ∧ SqL X.K H1 b ys ∧ R (Itz X.K a b) H1) ∨ (SqT X.K H1 a xs ∧ SqT X.K H1 b ys ∧ R (RZ.ItzT X.K a b) H1))) IR.low (g E F al H σ s rel) fun ds s1 ws F1 al1 H1 _ rel1 st1 v1 => ?_
  have v1 : DatL X.K al1 F1 ds ws := v1
  unfold pick
  cases hp : zip1 ds with
  | none => exact True.intro
  | some zs =>
    unfold zip1 at hp
    split at hp
    · rename_i a b
      obtain _ | ⟨h1, h2⟩ := v1
      obtain _ | ⟨h2, h3⟩ := h2
      cases h3
      split at hp
      · rename_i xs ys ha hb
        cases hp
        obtain ⟨p1, vs, rfl, q1, l1⟩ := lOf_ok h1 ha
        obtain ⟨p2, us, rfl, q2, l2⟩ := lOf_ok h2 hb
        exact fun R hR => ⟨p1, p2, vs, us, rfl, .inl ⟨rel1.sub.seqL q1, rel1.sub.seqL q2, hR _ F1 al1 H1 rel1 .refl (itr_walk (walk_zip rfl) (by simp [zipD, l1.length, l2.length]) (fun F al H sb gr => ⟨sb.seqL (gr.seqL q1), sb.seqL (gr.seqL q2)⟩) (y_pair fun i d x y => zip_get l1 l2 i d x y))⟩⟩
      · split at hp
        · rename_i xs ys ha hb
          cases hp
          obtain ⟨p1, vs, rfl, q1, l1⟩ := tOf_ok h1 ha
          obtain ⟨p2, us, rfl, q2, l2⟩ := tOf_ok h2 hb
          exact fun R hR => ⟨p1, p2, vs, us, rfl, .inr ⟨rel1.sub.seqT q1, rel1.sub.seqT q2, hR _ F1 al1 H1 rel1 .refl (itr_walk (walk_zipT rfl) (by simp [zipD, l1.length, l2.length]) (fun F al H sb gr => ⟨sb.seqT (gr.seqT q1), sb.seqT (gr.seqT q2)⟩) (y_pair fun i d x y => zip_get l1 l2 i d x y))⟩⟩
        · cases hp
    · cases hp
end
end VI
end
section
set_option Elab.async false
set_option linter.all false
set_option maxRecDepth 100000
set_option maxHeartbeats 2000000
/-! V10: for, while, list comprehensions. -/
namespace VI
open PySem PySem.Spec L2

/-! ### for -/
def forL (gv : Gv) (body : Sx) : List D → Sx
  | [], s => .nx s
  | d :: ds, s => match gv d s with
    | some s1 => (match body s1 with
      | .nx s2 => forL gv body ds s2
      | .ct s2 => forL gv body ds s2
      | .bk s2 => .nx s2
      | o => o)
    | none => .no
def svFor (it : M (List D)) (gv : Gv) (body : Sx) : Sx := svLet it fun ds s => forL gv body ds s
/-! ### while -/
def whileN (c : M Bool) (body : Sx) : Nat → Sx
  | 0, _ => .no
  | n + 1, s => match c s with
    | .ok true s1 => (match body s1 with
      | .nx s2 => whileN c body n s2
      | .ct s2 => whileN c body n s2
      | .bk s2 => .nx s2
      | o => o)
    | .ok false s1 => .nx s1
    | .ex x s1 => .ex x s1
    | .no => .no
open Classical in
noncomputable def svWhile (c : M Bool) (body : Sx) : Sx := fun s => if h : ∃ n, whileN c body n s ≠ .no then whileN c body (Classical.choose h) s else .no
theorem whileN_mono {c : M Bool} {body : Sx} : ∀ (n m : Nat) (s : S), n ≤ m → whileN c body n s ≠ .no → whileN c body m s = whileN c body n s
  | 0, _, _, _, h => absurd rfl h
  | n + 1, 0, _, h, _ => absurd h (Nat.not_succ_le_zero n)
  | n + 1, m + 1, s, hle, h => by
    unfold whileN at h ⊢
    cases hc : c s with
    | no => rfl
    | ex x s1 => rfl
    | ok b s1 =>
      rw [hc] at h
      cases b with
      | false => rfl
      | true =>
        cases hb : body s1 with
        | nx s2 => simp only [hb] at h ⊢; exact whileN_mono n m s2 (Nat.le_of_succ_le_succ hle) h
        | ct s2 => simp only [hb] at h ⊢; exact whileN_mono n m s2 (Nat.le_of_succ_le_succ hle) h
        | _ => simp only [hb]
theorem svWhile_eq {c : M Bool} {body : Sx} {n : Nat} {s : S} {o : Ot} (h : whileN c body n s = o) (hn : o ≠ .no) : svWhile c body s = o := by
  have hex : ∃ n, whileN c body n s ≠ .no := ⟨n, by rw [h]; exact hn⟩
  unfold svWhile
  rw [dif_pos hex]
  have hm := Classical.choose_spec hex
  generalize Classical.choose hex = m at hm
  rcases Nat.le_total n m with z | z
  · rw [whileN_mono n m s z (by rw [h]; exact hn), h]
  · rw [← whileN_mono m n s z hm, h]
section
variable {X : Cx} {W : Wx} {K : PySem.W.Frag}
theorem ss_for {is : List Nat} {tg iter : Expr} {body : List Stmt} {wi : TI} {ev : M (List D)} {g : TG} {gv : Gv} {tb : TS} {sb : Sx} {pos : Pos} (hi : SI X K W tg iter wi ev) (hg : SG X K is tg g gv) (hb : SSs X K W body tb sb) (hp : PassesOwn (model X.prog X.w) X.A X.env X.xe) (hc : X.calm = true := by rfl)
    (hs : ∀ x, foldedSetIterable iter X.env x = pure x := by intro _; rfl) : SS X K W (.For tg iter body [] pos) (tFor wi g tb) (svFor ev gv sb) := by
  obtain ⟨hK, pi, gi⟩ := hi
  obtain ⟨_, pg, gg⟩ := hg
  obtain ⟨_, pb, gb⟩ := hb
  refine ⟨hK, ps_for hp hc pi pg pb hs, fun E F al H σ s D rel w => ?_⟩
  refine Sat.want (k := fun ds s => forL gv sb ds s) (m := ev) (u := fun J H1 => ∃ W : Nat → Nat → L2.St → Hp → Prop, (∃ m, W 0 m σ H1) ∧ ∀ i m σ H, W i m σ H →
    (J.stop i H ∧ D.nx σ H) ∨ (J.go i H ∧ ∃ N : L2.St → Hp → Prop, (∀ σ' H', N σ' H' → ∃ m', m' < m ∧ W (i + 1) m' σ' H') ∧ ∀ x H', J.yld i H x H' → g x σ H' fun σ2 H2 => tb { D with nx := N, ct := N, bk := D.nx } σ2 H2)) (gi E F al H σ s rel) w (fun ds s1 J F1 al1 H1 hm r gr ir w1 => ?_) fun _ _ _ _ _ h => h
  have ir : ItR K al1 F1 J ds := ir
  refine ⟨fun i m σ H => m = ds.length - i ∧ i ≤ ds.length ∧ ∃ F al s, Rel K E F al H σ s ∧ Gr al1 F1 al F ∧ Wants K E W al F D (forL gv sb (ds.drop i) s), ⟨ds.length, by simp, Nat.zero_le _, F1, al1, s1, r, .refl, by simpa using w1⟩, ?_⟩
  rintro i m σ H ⟨rfl, hi, F2, al2, s2, r2, g2, w2⟩
  by_cases hlt : i < ds.length
  · refine .inr ⟨ir.go i E F2 al2 H σ s2 hlt r2 g2, fun σ H => ∃ F al s, Rel K E F al H σ s ∧ Gr al1 F1 al F ∧ Wants K E W al F D (forL gv sb (ds.drop (i + 1)) s), fun σ' H' p' => ⟨ds.length - (i + 1), by omega, rfl, hlt, p'⟩, fun x H' y => ?_⟩
    obtain ⟨F3, r3, st3, _, d3⟩ := ir.yld i ds[i] E F2 al2 H σ s2 x H' (List.getElem?_eq_getElem hlt) r2 g2 y
    rw [List.drop_eq_getElem_cons hlt] at w2
    have w2 : Wants K E W al2 F2 D (match gv ds[i] s2 with
      | some s1 => (match sb s1 with
        | .nx s2 => forL gv sb (ds.drop (i + 1)) s2
        | .ct s2 => forL gv sb (ds.drop (i + 1)) s2
        | .bk s2 => .nx s2
        | o => o)
      | none => .no) := w2
    cases hgv : gv ds[i] s2 with
    | none => rw [hgv] at w2; exact w2.elim
    | some s4 =>
      rw [hgv] at w2
      refine gg E F3 al2 H' σ s2 s4 ds[i] x _ r3 d3 hgv fun σ4 r4 _ _ _ _ => ?_
      refine gb E F3 al2 H' σ4 s4 _ r4 ?_
      have w2 : Wants K E W al2 F2 D (match sb s4 with
        | .nx s2 => forL gv sb (ds.drop (i + 1)) s2
        | .ct s2 => forL gv sb (ds.drop (i + 1)) s2
        | .bk s2 => .nx s2
        | o => o) := w2
      cases hbs : sb s4 with
      | nx s5 => rw [hbs] at w2; exact fun F' al' H' σ' r' gr' => ⟨F', al', s5, r', (g2.trans st3.gr).trans gr', w2.gr (st3.gr.trans gr')⟩
      | ct s5 => rw [hbs] at w2; exact fun F' al' H' σ' r' gr' => ⟨F', al', s5, r', (g2.trans st3.gr).trans gr', w2.gr (st3.gr.trans gr')⟩
      | bk s5 =>
        rw [hbs] at w2
        exact fun F' al' H' σ' r' gr' => w2 F' al' H' σ' r' (st3.gr.trans gr')
      | rt v s5 =>
        rw [hbs] at w2
        exact fun w F' al' H' σ' r' gr' => w2 w F' al' H' σ' r' (st3.gr.trans gr')
      | ex x s5 =>
        rw [hbs] at w2
        exact fun c d F' al' H' σ' r' gr' => w2 c d F' al' H' σ' r' (st3.gr.trans gr')
      | no => rw [hbs] at w2; exact w2.elim
  · have e : i = ds.length := by omega
    subst e
    rw [List.drop_length] at w2
    exact .inl ⟨ir.stop E F2 al2 H σ s2 r2 g2, w2 F2 al2 H σ r2 .refl⟩
theorem ss_while {c : Expr} {body : List Stmt} {tc : TT} {tb : TS} {ec : M Bool} {sb : Sx} {pos : Pos} (hcnd : ST X K W c tc ec) (hb : SSs X K W body tb sb) (hp : PassesOwn (model X.prog X.w) X.A X.env X.xe) : SS X K W (.While c body [] pos) (tWhile tc tb) (svWhile ec sb) := by
  obtain ⟨hK, pc, gc⟩ := hcnd
  obtain ⟨_, pb, gb⟩ := hb
  refine ⟨hK, ps_while hp pc pb, fun E F al H σ s D rel w => ?_⟩
  unfold svWhile at w
  split at w
  · rename_i hex
    generalize Classical.choose hex = n at w
    refine ⟨fun m σ H => ∃ F al s, Rel K E F al H σ s ∧ Wants K E W al F D (whileN ec sb m s), ⟨n, F, al, s, rel, w⟩, ?_⟩
    rintro m σ H ⟨F1, al1, s1, r1, w1⟩
    cases m with
    | zero => exact w1.elim
    | succ m =>
      have w1 : Wants K E W al1 F1 D (match ec s1 with
        | .ok true s1 => (match sb s1 with
          | .nx s2 => whileN ec sb m s2
          | .ct s2 => whileN ec sb m s2
          | .bk s2 => .nx s2
          | o => o)
        | .ok false s1 => .nx s1
        | .ex x s1 => .ex x s1
        | .no => .no) := w1
      have q := gc E F1 al1 H σ s1 r1
      cases hc : ec s1 with
      | no => rw [hc] at w1; exact w1.elim
      | ex x s2 =>
        rw [hc] at w1 q
        exact q _ fun cls d F' al' H' r st x => w1 cls d F' al' H' σ r st.gr x
      | ok b s2 =>
        rw [hc] at w1 q
        refine q _ fun b' F2 al2 H2 r2 st2 e => ?_
        have e : b' = b := e
        subst e
        cases b' with
        | false => rw [if_neg Bool.false_ne_true]; exact w1 F2 al2 H2 σ r2 st2.gr
        | true =>
          rw [if_pos rfl]
          refine ⟨fun σ H => ∃ F al s, Rel K E F al H σ s ∧ Wants K E W al F D (whileN ec sb m s), fun σ' H' p => ⟨m, Nat.lt_succ_self m, p⟩, gb E F2 al2 H2 σ s2 _ r2 ?_⟩
          have w1 : Wants K E W al1 F1 D (match sb s2 with
            | .nx s2 => whileN ec sb m s2
            | .ct s2 => whileN ec sb m s2
            | .bk s2 => .nx s2
            | o => o) := w1
          cases hbs : sb s2 with
          | nx s5 => rw [hbs] at w1; exact fun F' al' H' σ' r' gr' => ⟨F', al', s5, r', w1.gr (st2.gr.trans gr')⟩
          | ct s5 => rw [hbs] at w1; exact fun F' al' H' σ' r' gr' => ⟨F', al', s5, r', w1.gr (st2.gr.trans gr')⟩
          | bk s5 => rw [hbs] at w1; exact fun F' al' H' σ' r' gr' => w1 F' al' H' σ' r' (st2.gr.trans gr')
          | rt v s5 => rw [hbs] at w1; exact fun w F' al' H' σ' r' gr' => w1 w F' al' H' σ' r' (st2.gr.trans gr')
          | ex x s5 => rw [hbs] at w1; exact fun c d F' al' H' σ' r' gr' => w1 c d F' al' H' σ' r' (st2.gr.trans gr')
          | no => rw [hbs] at w1; exact w1.elim
  · exact w.elim
end

/-! ### slots forgotten and found again -/
def wipeE (env : List Sl) : List Nat → List Sl
  | [] => env
  | v :: vs => (wipeE env vs).set v .un
theorem wipeE_length (env : List Sl) : ∀ vs : List Nat, (wipeE env vs).length = env.length
  | [] => rfl
  | v :: vs => by unfold wipeE; rw [List.length_set, wipeE_length env vs]
theorem wipeE_out {env : List Sl} {i : Nat} : ∀ {vs : List Nat}, i ∉ vs → (wipeE env vs)[i]? = env[i]?
  | [], _ => rfl
  | v :: vs, h => by
    have h1 : v ≠ i := fun e => h (by rw [e]; exact List.mem_cons_self)
    have h2 : i ∉ vs := fun m => h (List.mem_cons_of_mem _ m)
    unfold wipeE
    rw [List.getElem?_set_ne h1]
    exact wipeE_out h2
theorem wipeE_in {env : List Sl} {i : Nat} {x : Sl} : ∀ {vs : List Nat}, i ∈ vs → (wipeE env vs)[i]? = some x → x = .un
  | [], h, _ => by simp at h
  | v :: vs, h, e => by
    unfold wipeE at e
    rcases set_get e with ⟨_, e, _⟩ | ⟨ne, e⟩
    · exact e
    · rcases List.mem_cons.mp h with h | h
      · exact absurd h.symm ne
      · exact wipeE_in h e
theorem wipe_in {σ : L2.St} {i : Nat} {x : Option V} : ∀ {vs : List Nat}, i ∈ vs → (wipe σ vs)[i]? = some x → x = none
  | [], h, _ => by simp at h
  | v :: vs, h, e => by
    unfold wipe at e
    rcases set_get e with ⟨_, e, _⟩ | ⟨ne, e⟩
    · exact e
    · rcases List.mem_cons.mp h with h | h
      · exact absurd h.symm ne
      · exact wipe_in h e
/-- the slots vs as they were at e0, the others as they are -/
def mergeE (vs : List Nat) (e0 e : List Sl) : List Sl := match vs with
  | [] => e
  | v :: vs => match e0[v]? with
    | some x => (mergeE vs e0 e).set v x
    | none => mergeE vs e0 e
theorem mergeE_length (e0 e : List Sl) : ∀ vs : List Nat, (mergeE vs e0 e).length = e.length
  | [] => rfl
  | v :: vs => by
    unfold mergeE
    cases e0[v]? with
    | none => exact mergeE_length e0 e vs
    | some x => show ((mergeE vs e0 e).set v x).length = _; rw [List.length_set]; exact mergeE_length e0 e vs
theorem mergeE_out {e0 e : List Sl} {i : Nat} : ∀ {vs : List Nat}, i ∉ vs → (mergeE vs e0 e)[i]? = e[i]?
  | [], _ => rfl
  | v :: vs, h => by
    have h1 : v ≠ i := fun z => h (by rw [z]; exact List.mem_cons_self)
    have h2 : i ∉ vs := fun m => h (List.mem_cons_of_mem _ m)
    unfold mergeE
    cases e0[v]? with
    | none => exact mergeE_out h2
    | some x => show ((mergeE vs e0 e).set v x)[i]? = _; rw [List.getElem?_set_ne h1]; exact mergeE_out h2
theorem mergeE_in {e0 e : List Sl} (hl : e0.length = e.length) {i : Nat} : ∀ {vs : List Nat}, i ∈ vs → (mergeE vs e0 e)[i]? = e0[i]?
  | [], h => by simp at h
  | v :: vs, h => by
    unfold mergeE
    cases hv : e0[v]? with
    | none =>
      show (mergeE vs e0 e)[i]? = _
      by_cases hi : i ∈ vs
      · exact mergeE_in hl hi
      · rcases List.mem_cons.mp h with h | h
        · subst h
          rw [mergeE_out hi, hv]
          have := List.getElem?_eq_none_iff.mp hv
          exact List.getElem?_eq_none (by omega)
        · exact absurd h hi
    | some x =>
      show ((mergeE vs e0 e).set v x)[i]? = _
      by_cases hvi : v = i
      · subst hvi
        have h1 := (List.getElem?_eq_some_iff.mp hv).1
        rw [List.getElem?_set_self (by rw [mergeE_length]; omega), hv]
      · rw [List.getElem?_set_ne hvi]
        rcases List.mem_cons.mp h with h | h
        · exact absurd h.symm hvi
        · exact mergeE_in hl h
def wipeS (vs : List Nat) (s : S) : S := { s with env := wipeE s.env vs }
def mergeS (vs : List Nat) (s0 s : S) : S := { s with env := mergeE vs s0.env s.env }
section
variable {K : PySem.W.Frag} {E : Ent} {σ : L2.St} {s s0 s1 s2 : S} {F F0 F1 F2 H H0 H1 H2 : Hp} {al al0 al1 al2 : List Addr} {vs : List Nat}
theorem wipeE_ow {env : List Sl} {i : Nat} {p : Bool} {o : Ob} (h : (wipeE env vs)[i]? = some (.ow p o)) : i ∉ vs ∧ env[i]? = some (.ow p o) := by
  by_cases hi : i ∈ vs
  · cases wipeE_in hi h
  · rw [wipeE_out hi] at h; exact ⟨hi, h⟩
theorem Rel.wipe (r : Rel K E F al H σ s) (vs : List Nat) : Rel K E F al H (L2.wipe σ vs) (wipeS vs s) := by
  refine ⟨r.sub, r.clen, r.cell, r.nd, by show (wipeE s.env vs).length = (L2.wipe σ vs).length; rw [wipeE_length, wipe_length]; exact r.elen, fun i sl v g1 g2 => ?_, fun i j p q o u a g1 g2 g3 g4 => ?_, r.ent, fun i p o a g1 g2 => ?_⟩
  · by_cases hi : i ∈ vs
    · cases wipeE_in hi g1; exact True.intro
    · have g1 : (wipeE s.env vs)[i]? = some sl := g1
      rw [wipeE_out hi] at g1
      rw [wipe_out hi] at g2
      exact r.env i sl v g1 g2
  · obtain ⟨n1, g1⟩ := wipeE_ow g1
    obtain ⟨n2, g2⟩ := wipeE_ow g2
    rw [wipe_out n1] at g3
    rw [wipe_out n2] at g4
    exact r.own i j p q o u a g1 g2 g3 g4
  · obtain ⟨n1, g1⟩ := wipeE_ow g1
    rw [wipe_out n1] at g2
    exact r.onew i p o a g1 g2
/-- what a block has done: beside its own slots vs, a step of the slots -/
structure Blk (vs : List Nat) (σ : L2.St) (s1 s : S) (F1 : Hp) (al1 : List Addr) (H1 : Hp) (F : Hp) (al : List Addr) (H : Hp) : Prop where
  ext : Ext (Tch al1 (wipeE s1.env vs) (L2.wipe σ vs)) (Own0 (wipeE s1.env vs) (L2.wipe σ vs)) F1 al1 H1 F al H
  len : s.env.length = s1.env.length
  dec : ∀ (i : Nat) (sl sl' : Sl), i ∉ vs → s1.env[i]? = some sl → s.env[i]? = some sl' → SlS sl sl'
  un : ∀ (i : Nat) (p : Bool) (o : Ob), i ∈ vs → s.env[i]? ≠ some (.ow p o)
theorem Blk.refl : Blk vs σ s (wipeS vs s) F al H F al H := ⟨.refl, wipeE_length _ _, fun i sl sl' hi g1 g2 => by
  have g2 : (wipeE s.env vs)[i]? = some sl' := g2
  rw [wipeE_out hi, g1] at g2
  cases g2
  exact SlS.refl _, fun i p o hi g => by cases wipeE_in hi g⟩
theorem Blk.back (b : Blk vs σ s1 s F1 al1 H1 F al H) {σ' : L2.St} (hw : ∀ i, i ∉ vs → σ'[i]? = σ[i]?) {p : Bool} {o : Ob} {i : Nat} {a : Addr} (h1 : s.env[i]? = some (.ow p o)) (h2 : σ'[i]? = some (some (.ref a))) : i ∉ vs ∧ ∃ o', (wipeE s1.env vs)[i]? = some (.ow p o') ∧ (L2.wipe σ vs)[i]? = some (some (V.ref a)) := by
  by_cases hi : i ∈ vs
  · exact absurd h1 (b.un i p o hi)
  · have hlt : i < s1.env.length := by rw [← b.len]; exact (List.getElem?_eq_some_iff.mp h1).1
    have q := b.dec i _ _ hi (List.getElem?_eq_getElem hlt) h1
    refine ⟨hi, ?_⟩
    rw [wipeE_out hi, wipe_out hi, List.getElem?_eq_getElem hlt]
    rw [hw i hi] at h2
    cases x : s1.env[i] with
    | un => rw [x] at q; cases (show Sl.ow p o = _ from q)
    | im d => rw [x] at q; cases (show Sl.ow p o = _ from q)
    | ow p' o' =>
      rw [x] at q
      rcases q with ⟨u, q⟩ | ⟨_, d, q⟩
      · cases q; exact ⟨o', rfl, h2⟩
      · cases q
theorem Blk.tch (b : Blk vs σ s1 s F1 al1 H1 F al H) {σ' : L2.St} (hw : ∀ i, i ∉ vs → σ'[i]? = σ[i]?) {x : Addr} (h : Tch al s.env σ' x) : Tch al1 (wipeE s1.env vs) (L2.wipe σ vs) x ∨ H1 x = none := by
  rcases h with h | ⟨i, p, o, h1, h2⟩
  · obtain ⟨l, e, n⟩ := b.ext.al
    rw [e] at h
    rcases List.mem_append.mp h with h | h
    · exact .inl (.inl h)
    · exact .inr (n x h)
  · obtain ⟨_, o', g1, g2⟩ := b.back hw h1 h2
    exact .inl (.inr ⟨i, p, o', g1, g2⟩)
/-- a step within the block -/
theorem Blk.step (b : Blk vs σ s1 s F1 al1 H1 F al H) {σ' : L2.St} (hw : ∀ i, i ∉ vs → σ'[i]? = σ[i]?) (st : Stp σ' s s2 F al H F2 al2 H2) : Blk vs σ s1 s2 F1 al1 H1 F2 al2 H2 := by
  refine ⟨b.ext.trans st.ext (fun x h => b.tch hw h) (fun x ⟨i, o, h1, h2⟩ => ?_), st.dec.len.trans b.len, fun i sl sl' hi g1 g2 => ?_, fun i p o hi g => ?_⟩
  · obtain ⟨_, o', g1, g2⟩ := b.back hw h1 h2
    exact .inl ⟨i, o', g1, g2⟩
  · have hlt : i < s.env.length := by rw [b.len]; exact (List.getElem?_eq_some_iff.mp g1).1
    exact (b.dec i _ _ hi g1 (List.getElem?_eq_getElem hlt)).trans (st.dec.st i _ _ (List.getElem?_eq_getElem hlt) g2)
  · obtain ⟨o', h⟩ := st.dec.back g
    exact b.un i p o' hi h
/-- slots vs change -/
theorem Blk.at (b : Blk vs σ s1 s F1 al1 H1 F al H) (hl : s2.env.length = s.env.length) (h1 : ∀ i, i ∉ vs → s2.env[i]? = s.env[i]?) (h2 : ∀ (i : Nat) (p : Bool) (o : Ob), i ∈ vs → s2.env[i]? ≠ some (.ow p o)) : Blk vs σ s1 s2 F1 al1 H1 F al H :=
  ⟨b.ext, hl.trans b.len, fun i sl sl' hi g1 g2 => b.dec i sl sl' hi g1 (by rw [← h1 i hi]; exact g2), h2⟩
/-- an object that nobody has is changed -/
theorem Rel.putFree (r : Rel K E F al H σ s) {a : Addr} {o : HO} (hF : F a = none) (hT : ¬ Tch al s.env σ a) (hE : E.H a = none) : Rel K E F al (upd H a o) σ s := by
  refine ⟨r.sub.put hF, r.clen, fun i b u h1 h2 => ?_, r.nd, r.elen, fun i sl v h1 h2 => ?_, r.own, r.ent.trans (Ext.put (T := fun x => x = a) (Z := fun _ => False) rfl) (fun x z => by
    have z : x = a := z
    subst z; exact .inr hE) (fun _ z => z.elim), r.onew⟩
  · obtain ⟨g, ho, e, q⟩ := r.cell i b u h1 h2
    have ne : b ≠ a := fun z => hT (.inl (z ▸ List.mem_of_getElem? h1))
    exact ⟨g, ho, by rw [upd_ne ne]; exact e, q⟩
  · have q := r.env i sl v h1 h2
    cases sl with
    | un => exact True.intro
    | im d => exact q
    | ow p u =>
      obtain ⟨b, hb, e, q1, q2, q3, q4⟩ := q
      subst e
      have ne : b ≠ a := fun z => hT (.inr ⟨i, _, _, h1, z ▸ h2⟩)
      exact ⟨b, hb, rfl, q1, q2, by rw [upd_ne ne]; exact q3, q4⟩
theorem Blk.put (b : Blk vs σ s1 s F1 al1 H1 F al H) {a : Addr} {o : HO} (h : H1 a = none) : Blk vs σ s1 s F1 al1 H1 F al (upd H a o) :=
  ⟨b.ext.trans (Ext.put (T := fun x => x = a) (Z := fun _ => False) rfl) (fun x z => by
    have z : x = a := z
    subst z; exact .inr h) (fun _ z => z.elim), b.len, b.dec, b.un⟩
/-- behind the block -/
theorem Rel.merge (r1 : Rel K E F1 al1 H1 σ s1) (b : Blk vs σ s1 s F1 al1 H1 F al H) {σ' : L2.St} (hw : ∀ i, i ∉ vs → σ'[i]? = σ[i]?) (hl : σ'.length = σ.length) (r : Rel K E F al H σ' s) : Rel K E F al H σ (mergeS vs s1 s) ∧ Stp σ s1 (mergeS vs s1 s) F1 al1 H1 F al H := by
  have e0 : s1.env.length = s.env.length := b.len.symm
  have ein : ∀ i, i ∈ vs → (mergeS vs s1 s).env[i]? = s1.env[i]? := fun i hi => mergeE_in e0 hi
  have eout : ∀ i, i ∉ vs → (mergeS vs s1 s).env[i]? = s.env[i]? := fun i hi => mergeE_out hi
  -- what the block's own slots own is kept
  have kept : ∀ (i : Nat) (p : Bool) (o : Ob) (a : Addr), i ∈ vs → s1.env[i]? = some (.ow p o) → σ[i]? = some (some (.ref a)) → ¬ Tch al1 (wipeE s1.env vs) (L2.wipe σ vs) a := fun i p o a hi h1 h2 ht => by
    rcases ht with ht | ⟨j, q, u, g1, g2⟩
    · exact (r1.ownH ⟨i, p, o, h1, h2⟩).2.1 ht
    · obtain ⟨n, g1⟩ := wipeE_ow g1
      rw [wipe_out n] at g2
      have := r1.own i j p q o u a h1 g1 h2 g2
      subst this
      exact n hi
  have back : ∀ (i : Nat) (p : Bool) (o : Ob) (a : Addr), (mergeS vs s1 s).env[i]? = some (.ow p o) → σ[i]? = some (some (.ref a)) → (i ∈ vs ∧ s1.env[i]? = some (.ow p o)) ∨ (i ∉ vs ∧ s.env[i]? = some (.ow p o) ∧ σ'[i]? = some (some (.ref a)) ∧ ∃ o', s1.env[i]? = some (.ow p o')) := fun i p o a h1 h2 => by
    by_cases hi : i ∈ vs
    · rw [ein i hi] at h1; exact .inl ⟨hi, h1⟩
    · rw [eout i hi] at h1
      rw [← hw i hi] at h2
      obtain ⟨_, o', g1, g2⟩ := b.back hw h1 h2
      exact .inr ⟨hi, h1, h2, o', (wipeE_ow g1).2⟩
  refine ⟨⟨r.sub, r.clen, r.cell, r.nd, by show (mergeE vs s1.env s.env).length = _; rw [mergeE_length, ← hl]; exact r.elen, fun i sl v g1 g2 => ?_, fun i j p q o u a g1 g2 g3 g4 => ?_, r.ent, fun i p o a g1 g2 => ?_⟩, ⟨b.ext.mono (fun x h => ?_) (fun x ⟨i, o, h1, h2⟩ => ?_), by show (mergeE vs s1.env s.env).length = _; rw [mergeE_length]; exact b.len, fun i sl sl' g1 g2 => ?_⟩⟩
  · by_cases hi : i ∈ vs
    · rw [ein i hi] at g1
      have q := r1.env i sl v g1 g2
      cases sl with
      | un => exact True.intro
      | im d =>
        obtain ⟨x, e, q⟩ := q
        exact ⟨x, e, q.mono b.ext.gr⟩
      | ow p o =>
        obtain ⟨a, ho, e, q1, q2, q3, q4⟩ := q
        subst e
        have nt := kept i p o a hi g1 g2
        refine ⟨a, ho, rfl, ?_, fun hm => ?_, b.ext.keep a ho q3 nt, q4.mono b.ext.gr⟩
        · cases z : F a with
          | none => rfl
          | some u =>
            rcases b.ext.fn a u z with h | h | ⟨j, o', h1, h2⟩
            · rw [q1] at h; cases h
            · rw [q3] at h; cases h
            · exact absurd (Or.inr ⟨j, _, o', h1, h2⟩) nt
        · obtain ⟨l, e, n⟩ := b.ext.al
          rw [e] at hm
          rcases List.mem_append.mp hm with hm | hm
          · exact q2 hm
          · rw [n a hm] at q3; cases q3
    · rw [eout i hi] at g1
      rw [← hw i hi] at g2
      exact r.env i sl v g1 g2
  · rcases back i p o a g1 g3 with ⟨hi, k1⟩ | ⟨hi, k1, k2, o', k3⟩ <;> rcases back j q u a g2 g4 with ⟨hj, m1⟩ | ⟨hj, m1, m2, u', m3⟩
    · exact r1.own i j p q o u a k1 m1 g3 g4
    · exact r1.own i j p q o u' a k1 m3 g3 g4
    · exact r1.own i j p q o' u a k3 m1 g3 g4
    · exact r.own i j p q o u a k1 m1 k2 m2
  · rcases back i p o a g1 g2 with ⟨hi, k1⟩ | ⟨hi, k1, k2, _⟩
    · exact r1.onew i p o a k1 g2
    · exact r.onew i p o a k1 k2
  · rcases h with h | ⟨i, p, o, h1, h2⟩
    · exact .inl (.inl h)
    · obtain ⟨n, h1⟩ := wipeE_ow h1
      rw [wipe_out n] at h2
      exact .inl (.inr ⟨i, p, o, h1, h2⟩)
  · obtain ⟨n, h1⟩ := wipeE_ow h1
    rw [wipe_out n] at h2
    exact .inl ⟨i, o, h1, h2⟩
  · by_cases hi : i ∈ vs
    · rw [ein i hi, g1] at g2; cases g2; exact SlS.refl _
    · rw [eout i hi] at g2
      exact b.dec i sl sl' hi g1 g2
end
end VI
end
section
set_option Elab.async false
set_option linter.all false
set_option maxRecDepth 100000
set_option maxHeartbeats 2000000
/-! V11: list comprehensions; name = [..]. -/
namespace VI
open PySem PySem.Spec L2

def compL (vs : List Nat) (gv : Gv) (tt : M Bool) (te : M Va) : List D → List D → S → Rs (List D)
  | [], acc, s => .ok acc s
  | d :: ds, acc, s => match gv d s with
    | none => .no
    | some s1 => (match tt s1 with
      | .ok true s2 => (match (te >>= esc) s2 with
        | .ok y s3 => if acc.length < sizeLine then compL vs gv tt te ds (acc ++ [y]) (wipeS vs s3) else .no
        | _ => .no)
      | .ok false s2 => compL vs gv tt te ds acc (wipeS vs s2)
      | _ => .no)
def evComp (vs : List Nat) (it : M (List D)) (gv : Gv) (tt : M Bool) (te : M Va) : M Va := it >>= fun ds s => match compL vs gv tt te ds [] (wipeS vs s) with
  | .ok acc s' => .ok (.fr (.lst acc)) (mergeS vs s s')
  | _ => .no
abbrev W0 : Wx := fun _ _ _ _ => False
def STs (X : Cx) (K : PySem.W.Frag) (W : Wx) (ifs : List Expr) (tt : TT) (ev : M Bool) : Prop := X.K = K ∧ PTs X ifs tt ∧ GoodT K W tt ev
section
variable {X : Cx} {W : Wx} {K : PySem.W.Frag}
theorem sts_nil (hK : X.K = K := by rfl) : STs X K W [] tYes (pure true) := ⟨hK, pts_nil, fun E F al H σ s rel Q hQ => hQ true F al H rel .refl rfl⟩
theorem sts_one {c : Expr} {tt : TT} {ev : M Bool} (h : ST X K W c tt ev) : STs X K W [c] tt ev := ⟨h.1, pts_one h.2.1, h.2.2⟩
theorem wipe_eq {σ σ2 : L2.St} {vs : List Nat} (hl : σ2.length = σ.length) (h : ∀ i, i ∉ vs → σ2[i]? = σ[i]?) : L2.wipe σ2 vs = L2.wipe σ vs := by
  refine List.ext_getElem? fun i => ?_
  by_cases hi : i ∈ vs
  · by_cases hlt : i < σ.length
    · have h1 : i < (L2.wipe σ2 vs).length := by rw [wipe_length, hl]; exact hlt
      have h2 : i < (L2.wipe σ vs).length := by rw [wipe_length]; exact hlt
      have e1 := wipe_in hi (List.getElem?_eq_getElem h1)
      have e2 := wipe_in hi (List.getElem?_eq_getElem h2)
      rw [List.getElem?_eq_getElem h1, List.getElem?_eq_getElem h2, e1, e2]
    · rw [List.getElem?_eq_none (by rw [wipe_length]; omega), List.getElem?_eq_none (by rw [wipe_length]; omega)]
  · rw [wipe_out hi, wipe_out hi]; exact h i hi
theorem good_comp {vs is : List Nat} {wi : TI} {ev : M (List D)} {g : TG} {gv : Gv} {tt : TT} {et : M Bool} {te : TE} {ee : M Va} (gi : GoodI K W wi ev) (gg : GoodG K is g gv) (gt : GoodT K W0 tt et) (ge : GoodE K W0 te ee) (hs : ∀ i ∈ is, i ∈ vs) : GoodE K W (tLc wi g tt te vs) (evComp vs ev gv et ee) := fun E F al H σ s rel => by
  refine Sat.bind (u := fun J H1 Q => ∀ D, H1 D = none → ∃ W : Nat → Nat → Hp → Prop, (∃ m, W 0 m (upd H1 D (.lst []))) ∧ ∀ i m H, W i m H →
    (J.stop i H ∧ Q (.ref D) H) ∨ (J.go i H ∧ ∃ Nx : Hp → Prop, (∀ H', Nx H' → ∃ m', m' < m ∧ W (i + 1) m' H') ∧ ∀ x H', J.yld i H x H' → g x (L2.wipe σ vs) H' fun σ2 H2 => L2.wipe σ2 vs = L2.wipe σ vs ∧ tt σ2 H2 fun b H3 =>
      if b = true then te σ2 H3 fun y H4 => ∃ acc, H4 D = some (.lst acc) ∧ acc.length < sizeLine ∧ Nx (upd H4 D (.lst (acc ++ [y]))) else Nx H3)) VR.low (gi E F al H σ s rel) fun ds s1 J F1 al1 H1 _ r1 st1 ir => ?_
  have ir : ItR K al1 F1 J ds := ir
  cases hc : compL vs gv et ee ds [] (wipeS vs s1) with
  | no => simp only [hc]; exact True.intro
  | ex x s' => simp only [hc]; exact True.intro
  | ok accF sF =>
    simp only [hc]
    refine fun Q hQ Dd hD => ?_
    obtain ⟨fF, fT, fE⟩ := r1.fresh hD
    have nw : ∀ (i : Nat), i ∉ vs → (L2.wipe σ vs)[i]? = σ[i]? := fun i hi => wipe_out hi
    refine ⟨fun i m H => m = ds.length - i ∧ i ≤ ds.length ∧ ∃ F al s acc, Rel K E F al H (L2.wipe σ vs) s ∧ Blk vs σ s1 s F1 al1 H1 F al H ∧ VaR K E H1 al F H (L2.wipe σ vs) s (.ref Dd) (.fr (.lst acc)) ∧ compL vs gv et ee (ds.drop i) acc s = .ok accF sF, ⟨ds.length, by simp, Nat.zero_le _, F1, al1, wipeS vs s1, [], (r1.new0 hD).wipe vs, Blk.put .refl hD, ?_, by simpa using hc⟩, ?_⟩
    · refine ⟨Dd, .lst [], rfl, fF, upd_same, ⟨.nil, Nat.zero_le _⟩, fun t => fT ?_, fE, hD⟩
      rcases t with t | ⟨i, p, o, h1, h2⟩
      · exact .inl t
      · obtain ⟨n, h1⟩ := wipeE_ow h1
        rw [wipe_out n] at h2
        exact .inr ⟨i, p, o, h1, h2⟩
    · rintro i m H2 ⟨rfl, hi, F2, al2, s2, acc, r2, b2, v2, c2⟩
      by_cases hlt : i < ds.length
      · have gr2 : Gr al1 F1 al2 F2 := b2.ext.gr
        refine .inr ⟨ir.go i E F2 al2 H2 _ s2 hlt r2 gr2, fun H => ∃ F al s acc, Rel K E F al H (L2.wipe σ vs) s ∧ Blk vs σ s1 s F1 al1 H1 F al H ∧ VaR K E H1 al F H (L2.wipe σ vs) s (.ref Dd) (.fr (.lst acc)) ∧ compL vs gv et ee (ds.drop (i + 1)) acc s = .ok accF sF, fun H' p' => ⟨ds.length - (i + 1), by omega, rfl, hlt, p'⟩, fun x H3 y => ?_⟩
        obtain ⟨F3, r3, st3, _, d3⟩ := ir.yld i ds[i] E F2 al2 H2 _ s2 x H3 (List.getElem?_eq_getElem hlt) r2 gr2 y
        have b3 := b2.step nw st3
        have v3 := v2.mono st3
        rw [List.drop_eq_getElem_cons hlt] at c2
        have c2 : (match gv ds[i] s2 with
          | none => .no
          | some s1 => (match et s1 with
            | .ok true s2 => (match (ee >>= esc) s2 with
              | .ok y s3 => if acc.length < sizeLine then compL vs gv et ee (ds.drop (i + 1)) (acc ++ [y]) (wipeS vs s3) else .no
              | _ => .no)
            | .ok false s2 => compL vs gv et ee (ds.drop (i + 1)) acc (wipeS vs s2)
            | _ => .no)) = Rs.ok accF sF := c2
        cases hgv : gv ds[i] s2 with
        | none => rw [hgv] at c2; cases c2
        | some s4 =>
          rw [hgv] at c2
          refine gg E F3 al2 H3 _ s2 s4 ds[i] x _ r3 d3 hgv fun σ4 r4 ag nu hl4 hst => ?_
          have no4 : ∀ (i : Nat) (p : Bool) (o : Ob), i ∈ vs → s4.env[i]? ≠ some (.ow p o) := fun i p o hi => by
            by_cases z : i ∈ is
            · exact nu i p o z (b2.un i p o hi)
            · rw [(ag i z).2]; exact b2.un i p o hi
          have ag' : ∀ i, i ∉ vs → σ4[i]? = (L2.wipe σ vs)[i]? ∧ s4.env[i]? = s2.env[i]? := fun i hi => ag i fun z => hi (hs i z)
          have nw4 : ∀ i, i ∉ vs → σ4[i]? = σ[i]? := fun i hi => (ag' i hi).1.trans (nw i hi)
          have hlw : σ4.length = σ.length := by rw [hl4, wipe_length]
          have ew : L2.wipe σ4 vs = L2.wipe σ vs := wipe_eq hlw nw4
          have b4 : Blk vs σ s1 s4 F1 al1 H1 F3 al2 H3 := b3.at (by
            have := r4.elen
            have := r3.elen
            omega) (fun i hi => (ag' i hi).2) no4
          have v4 : VaR K E H1 al2 F3 H3 σ4 s4 (.ref Dd) (.fr (.lst acc)) := by
            obtain ⟨a, ho, e, q1, q2, q3, q4, q5, q6⟩ := v3
            refine ⟨a, ho, e, q1, q2, q3, fun t => q4 ?_, q5, q6⟩
            rcases t with t | ⟨i, p, o, h1, h2⟩
            · exact .inl t
            · have hi : i ∉ vs := fun z => no4 i p o z h1
              rw [(ag' i hi).2] at h1
              rw [(ag' i hi).1] at h2
              exact .inr ⟨i, p, o, h1, h2⟩
          refine ⟨ew, ?_⟩
          have qt := gt E F3 al2 H3 σ4 s4 r4
          have c2 : (match et s4 with
            | .ok true s2 => (match (ee >>= esc) s2 with
              | .ok y s3 => if acc.length < sizeLine then compL vs gv et ee (ds.drop (i + 1)) (acc ++ [y]) (wipeS vs s3) else .no
              | _ => .no)
            | .ok false s2 => compL vs gv et ee (ds.drop (i + 1)) acc (wipeS vs s2)
            | _ => .no) = Rs.ok accF sF := c2
          -- a turn's end
          have fin : ∀ {F5 : Hp} {al5 : List Addr} {H5 : Hp} {s5 : S} {acc5 : List D}, Rel K E F5 al5 H5 σ4 s5 → Blk vs σ s1 s5 F1 al1 H1 F5 al5 H5 → VaR K E H1 al5 F5 H5 σ4 s5 (.ref Dd) (.fr (.lst acc5)) → compL vs gv et ee (ds.drop (i + 1)) acc5 (wipeS vs s5) = Rs.ok accF sF →
              ∃ F al s acc, Rel K E F al H5 (L2.wipe σ vs) s ∧ Blk vs σ s1 s F1 al1 H1 F al H5 ∧ VaR K E H1 al F H5 (L2.wipe σ vs) s (.ref Dd) (.fr (.lst acc)) ∧ compL vs gv et ee (ds.drop (i + 1)) acc s = .ok accF sF := fun {F5 al5 H5 s5 acc5} r5 b5 v5 c5 => by
            refine ⟨F5, al5, wipeS vs s5, acc5, by rw [← ew]; exact r5.wipe vs, b5.at (wipeE_length _ _) (fun i hi => wipeE_out hi) (fun i p o hi g => by cases wipeE_in hi g), ?_, c5⟩
            obtain ⟨a, ho, e, q1, q2, q3, q4, q5, q6⟩ := v5
            refine ⟨a, ho, e, q1, q2, q3, fun t => q4 ?_, q5, q6⟩
            rcases t with t | ⟨i, p, o, h1, h2⟩
            · exact .inl t
            · obtain ⟨n, h1⟩ := wipeE_ow h1
              rw [← ew, wipe_out n] at h2
              exact .inr ⟨i, p, o, h1, h2⟩
          cases het : et s4 with
          | no => rw [het] at c2; cases c2
          | ex x s5 => rw [het] at c2; cases c2
          | ok k s5 =>
            rw [het] at c2 qt
            refine qt _ fun k' F5 al5 H5 r5 st5 ek => ?_
            have ek : k' = k := ek
            subst ek
            cases k' with
            | false =>
              rw [if_neg Bool.false_ne_true]
              exact fin r5 (b4.step nw4 st5) (v4.mono st5) c2
            | true =>
              rw [if_pos rfl]
              have qe := (ge E F5 al5 H5 σ4 s5 r5).esc
              have c2 : (match (ee >>= esc) s5 with
                | .ok y s3 => if acc.length < sizeLine then compL vs gv et ee (ds.drop (i + 1)) (acc ++ [y]) (wipeS vs s3) else .no
                | _ => .no) = Rs.ok accF sF := c2
              cases hee : (ee >>= esc) s5 with
              | no => rw [hee] at c2; cases c2
              | ex x s6 => rw [hee] at c2; cases c2
              | ok yd s6 =>
                rw [hee] at c2 qe
                have c2 : (if acc.length < sizeLine then compL vs gv et ee (ds.drop (i + 1)) (acc ++ [yd]) (wipeS vs s6) else .no) = Rs.ok accF sF := c2
                split at c2
                · rename_i hz
                  refine qe _ fun y F6 al6 H6 r6 st6 d6 => ?_
                  have v6 := (v4.mono st5).mono st6
                  obtain ⟨a, ho, e, q1, q2, q3, q4, q5, q6⟩ := v6
                  cases e
                  cases ho <;> first | exact q3.elim | skip
                  rename_i vacc
                  have q3 : DatL K al6 F6 acc vacc ∧ acc.length ≤ sizeLine := q3
                  refine ⟨vacc, q2, by rw [← q3.1.length]; exact hz, ?_⟩
                  refine fin (r6.putFree q1 q4 q5) (((b4.step nw4 st5).step nw4 st6).put hD) ⟨Dd, _, rfl, q1, upd_same, ⟨q3.1.app (.cons d6 .nil), by rw [List.length_append]; exact hz⟩, q4, q5, q6⟩ c2
                · cases c2
      · have e : i = ds.length := by omega
        subst e
        have gr2 : Gr al1 F1 al2 F2 := b2.ext.gr
        rw [List.drop_length] at c2
        cases c2
        obtain ⟨rm, sm⟩ := r1.merge b2 nw (wipe_length σ vs) r2
        refine .inl ⟨ir.stop E F2 al2 H2 _ sF r2 gr2, hQ _ F2 al2 H2 rm sm ?_⟩
        obtain ⟨a, ho, e, q1, q2, q3, q4, q5, q6⟩ := v2
        cases e
        refine ⟨Dd, ho, rfl, q1, q2, q3, fun t => ?_, q5, hD⟩
        rcases t with t | ⟨i, p, o, h1, h2⟩
        · exact q4 (.inl t)
        · by_cases hi : i ∈ vs
          · have h1 : (mergeE vs s1.env sF.env)[i]? = some (.ow p o) := h1
            rw [mergeE_in b2.len.symm hi] at h1
            exact (r1.ownH ⟨i, p, o, h1, h2⟩).2.2 hD
          · have h1 : (mergeE vs s1.env sF.env)[i]? = some (.ow p o) := h1
            rw [mergeE_out hi] at h1
            rw [← wipe_out (vs := vs) hi] at h2
            exact q4 (.inr ⟨i, p, o, h1, h2⟩)
theorem se_comp {is : List Nat} {elt tg iter : Expr} {ifs : List Expr} {scope : Scope} {pos : Pos} {wi : TI} {ev : M (List D)} {g : TG} {gv : Gv} {tt : TT} {et : M Bool} {te : TE} {ee : M Va} (own : List (Str × Nat)) (hN : X.N.Nodup) (hi : SI X K W tg iter wi ev)
    (hg : ∀ (s : Shared) (H : Hp) (C : Addr) (cl : List (Str × Addr)) (fp : List Addr), SG (X.blk s H scope (compEnvC scope cl C X.env) fp) K is tg g gv) (ht : ∀ (s : Shared) (H : Hp) (C : Addr) (cl : List (Str × Addr)) (fp : List Addr), STs (X.blk s H scope (compEnvC scope cl C X.env) fp) K W0 ifs tt et)
    (he : ∀ (s : Shared) (H : Hp) (C : Addr) (cl : List (Str × Addr)) (fp : List Addr), SE (X.blk s H scope (compEnvC scope cl C X.env) fp) K W0 elt te ee) (ok : blkC X.N X.env.scope scope own = true := by rfl) (hvs : is.all (fun i => (own.map (·.2)).contains i) = true := by rfl) (hc : X.calm = true := by rfl) (hs : ∀ x, foldedSetIterable iter X.env x = pure x := by intro _; rfl) :
    SE X K W (.ListComp elt [⟨tg, iter, ifs, 0⟩] scope pos) (tLc wi g tt te (own.map (·.2))) (evComp (own.map (·.2)) ev gv et ee) := by
  obtain ⟨hK, pi, gi⟩ := hi
  refine ⟨hK, pe_lc hc hN pi (blkOk_by ok) (fun s H C cl fp => (hg s H C cl fp).2.1) (fun s H C cl fp => (ht s H C cl fp).2.1) (fun s H C cl fp => (he s H C cl fp).2.1) hs, ?_⟩
  refine good_comp gi (hg X.s_0 (fun _ => none) 0 [] []).2.2 (ht X.s_0 (fun _ => none) 0 [] []).2.2 (he X.s_0 (fun _ => none) 0 [] []).2.2 fun i hi => ?_
  have := List.all_eq_true.mp hvs i hi
  simpa using this
/-- what is stored at a local name -/
inductive How where
  | set | own | cell
def svHow : How → Nat → M Va → Sx
  | .set => svSet
  | .own => svSetO
  | .cell => svSetC
theorem good_how {te : TE} {ev : M Va} (h : How) (i : Nat) (g : GoodE K W te ev) : GoodS K W (tAsg te (gName i)) (svHow h i ev) := fun E F al H σ s D rel w => by
  cases h with
  | set => exact (g E F al H σ s rel).esc.want w (fun d s1 v F1 al1 H1 hm r gr q w1 => w1 F1 al1 H1 _ (r.setIm i q) .refl) fun _ _ _ _ _ h => h
  | own =>
    refine (g E F al H σ s rel).want w (fun d s1 v F1 al1 H1 hm r gr q w1 => ?_) fun _ _ _ _ _ h => h
    cases d with
    | im d => exact w1 F1 al1 H1 _ (r.setIm i q) .refl
    | fr o =>
      obtain ⟨a, ho, e, h1, h2, h3, h4, h5, h6⟩ := q
      subst e
      exact w1 F1 al1 H1 _ (r.setOw i h1 h2 h3 h4 h5) .refl
    | pl j => exact w1.elim
  | cell =>
    refine (g E F al H σ s rel).want w (fun d s1 v F1 al1 H1 hm r gr q w1 => ?_) fun _ _ _ _ _ h => h
    cases d with
    | im d => exact w1 F1 al1 H1 _ (r.setIm i q) .refl
    | fr o =>
      obtain ⟨a, ho, e, h1, h2, h3, h4, h5, h6⟩ := q
      subst e
      obtain ⟨r2, gr2, d2⟩ := r.mkCell h1 h2 h3 h4 h5
      exact w1 F1 _ H1 _ (r2.setIm i d2) gr2
    | pl j => exact w1.elim
theorem ss_how (h : How) (i : Nat) {x : Str} {e : Expr} {te : TE} {ev : M Va} {pos pos' : Pos} (he : SE X K W e te ev) (hN : X.N.Nodup) (hi : X.N[i]? = some x := by rfl) (hx : Loc X.env.scope x := by first | exact Or.inl rfl | exact Or.inr rfl) (hs : swapsWith e (some (.Name x pos')) pos.line X.env = pure false := by rfl)
    (hf : X.fn x = true ∨ X.env.scope.names.lookup x = some .local := by first | exact .inl rfl | exact .inr rfl | assumption) : SS X K W (.Assign [.Name x pos'] e pos) (tAsg te (gName i)) (svHow h i ev) := by
  obtain ⟨hK, p, g⟩ := he
  exact ⟨hK, ps_set hN hi hx p hs hf, good_how h i g⟩
/-- name = [..] on one line -/
theorem ss_comp (h : How) (i : Nat) {is : List Nat} {y : Str} {py : Pos} {elt tg iter : Expr} {ifs : List Expr} {scope : Scope} {pos spos : Pos} {wi : TI} {ev : M (List D)} {g : TG} {gv : Gv} {tt : TT} {et : M Bool} {te : TE} {ee : M Va} (own : List (Str × Nat)) (hN : X.N.Nodup) (hi : SI X K W tg iter wi ev)
    (hg : ∀ (s : Shared) (H : Hp) (C : Addr) (cl : List (Str × Addr)) (fp : List Addr), SG (X.blk s H scope (compEnvC scope cl C X.env) fp) K is tg g gv) (ht : ∀ (s : Shared) (H : Hp) (C : Addr) (cl : List (Str × Addr)) (fp : List Addr), STs (X.blk s H scope (compEnvC scope cl C X.env) fp) K W0 ifs tt et)
    (he : ∀ (s : Shared) (H : Hp) (C : Addr) (cl : List (Str × Addr)) (fp : List Addr), SE (X.blk s H scope (compEnvC scope cl C X.env) fp) K W0 elt te ee) (hsw : swapsWith (.ListComp elt [⟨tg, iter, ifs, 0⟩] scope pos) (some (.Name y py)) spos.line X.env = pure true := by exact sw_true rfl rfl rfl rfl)
    (hy : X.N[i]? = some y := by rfl) (hyl : X.env.scope.names.lookup y = some .local := by rfl)
    (ok : blkC X.N X.env.scope scope own = true := by rfl) (hvs : is.all (fun i => (own.map (·.2)).contains i) = true := by rfl) (hc : X.calm = true := by rfl) (hs : ∀ x, foldedSetIterable iter X.env x = pure x := by intro _; rfl) :
    SS X K W (.Assign [.Name y py] (.ListComp elt [⟨tg, iter, ifs, 0⟩] scope pos) spos) (tAsg (tLc wi g tt te (own.map (·.2))) (gName i)) (svHow h i (evComp (own.map (·.2)) ev gv et ee)) := by
  obtain ⟨hK, pi, gi⟩ := hi
  refine ⟨hK, ps_setLc hc hN hy hyl hsw pi (blkOk_by ok) (fun s H C cl fp => (hg s H C cl fp).2.1) (fun s H C cl fp => (ht s H C cl fp).2.1) (fun s H C cl fp => (he s H C cl fp).2.1) hs, ?_⟩
  refine good_how h i (good_comp gi (hg X.s_0 (fun _ => none) 0 [] []).2.2 (ht X.s_0 (fun _ => none) 0 [] []).2.2 (he X.s_0 (fun _ => none) 0 [] []).2.2 fun i hi => ?_)
  have := List.all_eq_true.mp hvs i hi
  simpa using this
end
end VI
end
section
set_option Elab.async false
set_option linter.all false
set_option maxRecDepth 100000
set_option maxHeartbeats 2000000
/-! V12: what a def does by values, its promise; calls. -/
namespace VI
open PySem PySem.Spec L2

inductive Fr where
  | ok (v : Va) (st : List Ob) | ex (x : Xc) (st : List Ob) | no
abbrev Fs := List D → List Ob → Fr
/-- n parameters, N slots, the body -/
def fnOf (n N : Nat) (sv : Sx) : Fs := fun ds st => if ds.length = n then (match sv ⟨ds.map .im ++ List.replicate (N - n) .un, st⟩ with
  | .nx s => .ok (.im .non) s.st
  | .rt (.im d) s => .ok (.im d) s.st
  | .rt (.fr o) s => .ok (.fr o) s.st
  | .ex x s => .ex x s.st
  | _ => .no) else .no
structure RelG (K : PySem.W.Frag) (F : Hp) (al : List Addr) (H : Hp) (st : List Ob) : Prop where
  sub : Sub F H
  clen : al.length = st.length
  cell : ∀ (i : Nat) (a : Addr) (o : Ob), al[i]? = some a → st[i]? = some o → F a = none ∧ ∃ ho, H a = some ho ∧ ObR K al F o ho
  nd : al.Nodup
def VfR (K : PySem.W.Frag) (al : List Addr) (F H H0 : Hp) (w : V) : Va → Prop
  | .im d => Dat K al F d w
  | .fr o => ∃ a ho, w = .ref a ∧ F a = none ∧ a ∉ al ∧ H a = some ho ∧ ObR K al F o ho ∧ H0 a = none
  | .pl _ => False
def FrW (K : PySem.W.Frag) (F : Hp) (al : List Addr) (H : Hp) (Q : VK) (E : XK) : Fr → Prop
  | .ok v st' => ∀ (w : V) (F' : Hp) (al' : List Addr) (H' : Hp), RelG K F' al' H' st' → Ext (fun a => a ∈ al) (fun _ => False) F al H F' al' H' → VfR K al' F' H' H w v → Q w H'
  | .ex x st' => ∀ (cls : Value) (d : Option Addr) (F' : Hp) (al' : List Addr) (H' : Hp), RelG K F' al' H' st' → Ext (fun a => a ∈ al) (fun _ => False) F al H F' al' H' → XcR K al' F' H' cls d x → E cls d H'
  | .no => False
/-- the promise of a def that does f -/
def spOf (K : PySem.W.Frag) (f : Fs) : Sp := fun vs H Q E => ∃ (F : Hp) (al : List Addr) (st : List Ob) (ds : List D), RelG K F al H st ∧ DatL K al F ds vs ∧ FrW K F al H Q E (f ds st)
/-- how exceptions lie behind a call -/
abbrev CV (P : Program) (w : World) : CXT := L2.CX P w
def apF (f : Fs) (ds : List D) : M Va := fun s => match f ds s.st with
  | .ok v st => .ok v { s with st := st }
  | .ex x st => .ex x { s with st := st }
  | .no => .no
section
variable {K : PySem.W.Frag} {E : Ent} {W : Wx} {σ : L2.St} {s : S} {F F1 F' H H1 H' : Hp} {al al1 al' : List Addr} {st' : List Ob} {f : Fs}
theorem Rel.g (r : Rel K E F al H σ s) : RelG K F al H s.st := ⟨r.sub, r.clen, r.cell, r.nd⟩
theorem Rel.call (r : Rel K E F al H σ s) (g : RelG K F' al' H' st') (x : Ext (fun a => a ∈ al) (fun _ => False) F al H F' al' H') : Rel K E F' al' H' σ { s with st := st' } ∧ Stp σ s { s with st := st' } F al H F' al' H' := by
  refine ⟨⟨g.sub, g.clen, g.cell, g.nd, r.elen, fun i sl v h1 h2 => ?_, r.own, r.ent.trans x (fun a ha => ?_) (fun _ z => z.elim), r.onew⟩, x.mono (fun a ha => .inl (.inl ha)) (fun _ z => z.elim), .refl _⟩
  · have q := r.env i sl v h1 h2
    cases sl with
    | un => exact True.intro
    | im d =>
      obtain ⟨y, e, q⟩ := q
      exact ⟨y, e, q.mono x.gr⟩
    | ow p o =>
      obtain ⟨a, ho, e, q1, q2, q3, q4⟩ := q
      refine ⟨a, ho, e, ?_, fun hm => ?_, x.keep a ho q3 q2, q4.mono x.gr⟩
      · cases z : F' a with
        | none => rfl
        | some u =>
          rcases x.fn a u z with h | h | h
          · rw [q1] at h; cases h
          · rw [q3] at h; cases h
          · exact h.elim
      · obtain ⟨l, e, n⟩ := x.al
        rw [e] at hm
        rcases List.mem_append.mp hm with hm | hm
        · exact q2 hm
        · rw [n a hm] at q3; cases q3
  · obtain ⟨l, e, n⟩ := r.ent.al
    rw [e] at ha
    rcases List.mem_append.mp ha with ha | ha
    · exact .inl (.inl ha)
    · exact .inr (n a ha)
theorem sat_ap {ds : List D} {vs : List V} (rel : Rel K E F al H σ s) (d : DatL K al F ds vs) : Sat K E W (VR K E σ) F al H σ s (fun Q => spOf K f vs H Q (WE W σ)) (apF f ds s) := by
  unfold apF
  cases hf : f ds s.st with
  | no => exact True.intro
  | ok v st =>
    refine fun Q hQ => ⟨F, al, s.st, ds, rel.g, d, ?_⟩
    rw [hf]
    refine fun w F' al' H' g x vf => ?_
    obtain ⟨r2, s2⟩ := rel.call g x
    refine hQ w F' al' H' r2 s2 ?_
    cases v with
    | im d => exact vf
    | fr o =>
      obtain ⟨a, ho, e, h1, h2, h3, h4, h5⟩ := vf
      obtain ⟨f1, f2, f3⟩ := rel.fresh h5
      refine ⟨a, ho, e, h1, h3, h4, fun t => ?_, f3, h5⟩
      rcases t with t | t
      · exact h2 t
      · exact f2 (.inr t)
    | pl i => exact vf.elim
  | ex x st =>
    refine fun Q hQ => ⟨F, al, s.st, ds, rel.g, d, ?_⟩
    rw [hf]
    refine fun cls dd F' al' H' g x q => ?_
    obtain ⟨r2, s2⟩ := rel.call g x
    exact hQ cls dd F' al' H' r2 s2 q
end
/-- a datum that every heap has alike -/
def D.v0 : D → V
  | .bl b => .bl b
  | .int i => .int i
  | .str x => .str x
  | .ty n => .ty n
  | _ => .non
def D.flat : D → Bool
  | .non => true
  | .bl _ => true
  | .int _ => true
  | .str _ => true
  | .ty _ => true
  | _ => false
theorem flat_dat {K : PySem.W.Frag} {al : List Addr} {F : Hp} : ∀ {ds : List D}, ds.all D.flat = true → DatL K al F ds (ds.map D.v0)
  | [], _ => .nil
  | d :: ds, h => by
    simp only [List.all_cons, Bool.and_eq_true] at h
    refine .cons ?_ (flat_dat h.2)
    cases d with
    | non => exact .non
    | bl b => exact .bl b
    | int i => exact .int i
    | str x => exact .str x
    | ty n => exact .ty n
    | _ => cases h.1
def evCall (f : Fs) (des : List D) (m : M (List D)) : M Va := m >>= fun ds => apF f (ds ++ des)
def evCallK (f : Fs) (g : {α : Type} → List α → List α → List α → List α) (n k : Nat) (ms : List D) (m mk : M (List D)) : M Va := m >>= fun ds => mk >>= fun es => fun s => if ds.length = n ∧ es.length = k then apF f (g ds ms es) s else .no
section
variable {K : PySem.W.Frag} {W : Wx} {f : Fs} {ta tk : TA} {m mk : M (List D)} {des : List D}
theorem good_call (ga : GoodA K W ta m) (hd : des.all D.flat = true) : GoodE K W (tCallSD (spOf K f) (des.map D.v0) (WE W) ta) (evCall f des m) := fun E F al H σ s rel => by
  refine Sat.bind (u := fun vs H1 Q => spOf K f (vs ++ des.map D.v0) H1 Q (WE W σ)) VR.low (ga E F al H σ s rel) fun ds s1 ws F1 al1 H1 _ rel1 st1 v1 => ?_
  exact sat_ap rel1 (DatL.app v1 (flat_dat hd))
def tCallNS (n m : Nat) (sp : Sp) (gV : List V → List V → List V) (E : L2.St → XK) (t tk : TA) : TE := fun σ H Q => t σ H fun vs H1 => tk σ H1 fun zs H2 => vs.length = n ∧ zs.length = m ∧ sp (gV vs zs) H2 Q (E σ)
theorem good_callK {g : {α : Type} → List α → List α → List α → List α} {n k : Nat} (ga : GoodA K W ta m) (gk : GoodA K W tk mk) (hg : ∀ (al : List Addr) (F : Hp) (ds es : List D) (vs zs : List V), DatL K al F ds vs → DatL K al F es zs → DatL K al F (g ds des es) (g vs (des.map D.v0) zs)) :
    GoodE K W (tCallNS n k (spOf K f) (fun vs zs => g vs (des.map D.v0) zs) (WE W) ta tk) (evCallK f g n k des m mk) := fun E F al H σ s rel => by
  refine Sat.bind (u := fun vs H1 Q => tk σ H1 fun zs H2 => vs.length = n ∧ zs.length = k ∧ spOf K f (g vs (des.map D.v0) zs) H2 Q (WE W σ)) VR.low (ga E F al H σ s rel) fun ds s1 ws F1 al1 H1 _ rel1 st1 v1 => ?_
  refine Sat.bind (u := fun zs H2 Q => ws.length = n ∧ zs.length = k ∧ spOf K f (g ws (des.map D.v0) zs) H2 Q (WE W σ)) VR.low (gk E F1 al1 H1 σ s1 rel1) fun es s2 zs F2 al2 H2 _ rel2 st2 v2 => ?_
  show Sat K E W (VR K E σ) F2 al2 H2 σ s2 _ (if ds.length = n ∧ es.length = k then apF f (g ds des es) s2 else .no)
  have v1 : DatL K al1 F1 ds ws := v1
  have v2 : DatL K al2 F2 es zs := v2
  by_cases h : ds.length = n ∧ es.length = k
  · rw [if_pos h]
    exact (sat_ap rel2 (hg al2 F2 ds es ws zs (v1.mono st2.gr) v2)).imp fun Q q => ⟨by rw [← v1.length]; exact h.1, by rw [← v2.length]; exact h.2, q⟩
  · rw [if_neg h]; exact True.intro
end

/-! ### a def as a callee -/
section
variable (P : Program) (w : World) (K : PySem.W.Frag) (mg : Str → Option Value) (base : Heap)
/-- the module's def x does f; des fill the arguments up -/
def FnP (k : Nat) (x : Str) (des : List D) (f : Fs) : Prop := ∃ (a : Addr) (fd : FuncData) (ps : List Str) (ds : List Value), FnOk P w K mg base (CV P w) k a fd ps (spOf K f) ∧ mg x = some (.ref a) ∧ PySem.W.keepIn K (.ref a) = true ∧ Binds K fd ps ds ∧ Vals (des.map D.v0) ds ∧ des.all D.flat = true
def FnK (k : Nat) (x : Str) (n : Nat) (ks : List Str) (g : {α : Type} → List α → List α → List α → List α) (ms : List D) (f : Fs) : Prop := ∃ (a : Addr) (fd : FuncData) (ps : List Str) (mv : List Value), FnOk P w K mg base (CV P w) k a fd ps (spOf K f) ∧ mg x = some (.ref a) ∧ PySem.W.keepIn K (.ref a) = true ∧
  KBn K fd ps n ks (fun us ws => g us mv ws) (fun vs zs => g vs (ms.map D.v0) zs) ∧ ∀ (al : List Addr) (F : Hp) (ds es : List D) (vs zs : List V), DatL K al F ds vs → DatL K al F es zs → DatL K al F (g ds ms es) (g vs (ms.map D.v0) zs)
end
/-- what a body's derivation stands on -/
structure Bx (X : Cx) (W : Wx) : Prop where
  own : PassesOwn (model X.prog X.w) X.A X.env X.xe
  tk : L2.Takes X W
theorem Bx.at_ {X : Cx} {W : Wx} (b : Bx X W) (σ : L2.St) : PassesAt (CV X.prog X.w) X σ (WE W σ) := passAt b.tk σ
theorem takes0 {X : Cx} : L2.Takes X W0 := fun _ _ ⟨_, _, _, _, _, _, _, _, _, _, _, _, _, _, _, _, w⟩ => w.elim
section
variable {X : Cx} {CX : CXT} {k n : Nat} {f : Addr} {fd : FuncData} {ps ks : List Str} {sp : Sp} {E : L2.St → XK} {x : Str} {p pos : Pos} {e : Expr} {es : List Expr} {kws : List Keyword} {t tk : TA} {g : List Value → List Value → List Value} {gV : List V → List V → List V}
theorem run_fnNS {pins : List (Addr × Obj)} {σ : L2.St} {H : Hp} {s : Shared} {Q : VK} {us ws : List Value} {vs zs : List V} (F : FnOk X.prog X.w X.K X.mg X.base CX k f fd ps sp) (hr : Room k X.A) (hb : KBn X.K fd ps n ks g gV) (hx : PassesAt CX X σ (E σ))
    (I : Inv X pins σ H s) (r : Vals vs us) (rz : Vals zs ws) (l1 : vs.length = n) (l2 : zs.length = ks.length) (h : sp (gV vs zs) H Q (E σ)) : wpAny (model X.prog X.w) X.A (call (.ref f) us (ks.zip ws)) (EP X pins σ Q) X.xe s := by
  have r2 := hb.rel r rz
  refine PySem.wpAny_call (PySem.codeAny_mono (F.run X.A X.stack s H ⟨us, ks.zip ws⟩ (g us ws) (gV vs zs) Q (E σ) hr I.env0 (hb.to s us ws I.kIn (r.length.symm.trans l1) (rz.length.symm.trans l2)) r2 h) fun r s' hq => ?_)
  cases r with
  | error e => exact hx pins H s e s' I hq
  | ok fl =>
    cases fl with
    | ret u => exact I.after hq
    | next => exact False.elim hq
    | brk => exact False.elim hq
    | cont => exact False.elim hq
theorem pe_callNS (F : FnOk X.prog X.w X.K X.mg X.base CX k f fd ps sp) (hr : Room k X.A) (hg : Gl X x) (hm : X.mg x = some (.ref f)) (hk : PySem.W.keepIn X.K (.ref f) = true) (hb : KBn X.K fd ps n ks g gV) (hx : ∀ σ, PassesAt CX X σ (E σ))
    (ha : PA X (e :: es) t) (hkw : PK X kws tk) (hall : (backToKw pos (keywordEach kws X.env)).all (·.1.isSome) = true := by rfl) (hks : (backToKw pos (keywordEach kws X.env)).filterMap (·.1) = ks := by rfl)
    (hdb : (x == ("__debug__" : Str)) = false := by decide) (he : starEach (e :: es) X.env = (false, eval e X.env) :: starEach es X.env := by rfl)
    (hpl : ((backTo pos (starEach (e :: es) X.env)).any (·.1) || (backToKw pos (keywordEach kws X.env)).any (·.1.isNone)) = false := by rfl) :
    PE X (.Call (.Name x p) (e :: es) kws pos) (tCallNS n ks.length sp gV E t tk) := by
  refine ⟨fun pins s σ H Q I h => ?_⟩
  refine PySem.wpAny_Call_Name_kw (ld_glob I hg hm ?_ hdb)
  refine PySem.W.callWith_KW (h₀ := X.base) I.ok.mod.kin hk hall (thn (ha.run pos pins s σ H _ I h) fun us s1 ⟨vs, H1, I1, r, q⟩ => ?_) hpl he
  refine thn (hkw.run pos pins s1 σ H1 _ I1 q) fun ws s2 ⟨zs, H2, I2, rz, l1, l2, q2⟩ => ⟨I2.kIn, ?_⟩
  rw [hks]
  exact run_fnNS F hr hb (hx σ) I2 r rz l1 l2 q2
theorem pe_callNS0 (F : FnOk X.prog X.w X.K X.mg X.base CX k f fd ps sp) (hr : Room k X.A) (hg : Gl X x) (hm : X.mg x = some (.ref f)) (hk : PySem.W.keepIn X.K (.ref f) = true) (hb : KBn X.K fd ps 0 ks g gV) (hx : ∀ σ, PassesAt CX X σ (E σ))
    (hkw : PK X kws tk) (hall : (backToKw pos (keywordEach kws X.env)).all (·.1.isSome) = true := by rfl) (hks : (backToKw pos (keywordEach kws X.env)).filterMap (·.1) = ks := by rfl)
    (hdb : (x == ("__debug__" : Str)) = false := by decide)
    (hpl : ((backTo pos (starEach [] X.env)).any (·.1) || (backToKw pos (keywordEach kws X.env)).any (·.1.isNone)) = false := by rfl) :
    PE X (.Call (.Name x p) [] kws pos) (tCallNS 0 ks.length sp gV E tNil tk) := by
  refine ⟨fun pins s σ H Q I h => ?_⟩
  refine PySem.wpAny_Call_Name_kw (ld_glob I hg hm ?_ hdb)
  refine PySem.W.callWith_KW0 (h₀ := X.base) I.ok.mod.kin hk hall ?_ hpl
  refine thn (hkw.run pos pins s σ H _ I h) fun ws s2 ⟨zs, H2, I2, rz, l1, l2, q2⟩ => ⟨I2.kIn, ?_⟩
  rw [hks]
  exact run_fnNS (us := []) (vs := []) F hr hb (hx σ) I2 .nil rz rfl l2 q2
theorem pe_callSD0 {dvs : List V} {ds : List Value} (F : FnOk X.prog X.w X.K X.mg X.base CX k f fd ps sp) (hr : Room k X.A) (hg : Gl X x) (hm : X.mg x = some (.ref f)) (hk : PySem.W.keepIn X.K (.ref f) = true) (hb : Binds X.K fd ps ds) (hd : Vals dvs ds) (hx : ∀ σ, PassesAt CX X σ (E σ))
    (hdb : (x == ("__debug__" : Str)) = false := by decide) : PE X (.Call (.Name x p) [] [] pos) (tCallSD sp dvs E tNil) := by
  refine ⟨fun pins s σ H Q I h => ?_⟩
  refine PySem.wpAny_Call_Name_kw (ld_glob I hg hm ?_ hdb)
  exact PySem.W.callWith_K0 I.kIn hk (run_fnSD (us := []) F hr hb hd (hx σ) I .nil h)
end
section
variable {X : Cx} {W : Wx} {K : PySem.W.Frag} {k n : Nat} {x : Str} {des : List D} {f : Fs} {p pos : Pos} {e : Expr} {es : List Expr} {kws : List Keyword} {th tk : TA} {m mk : M (List D)}
theorem se_call (hF : FnP X.prog X.w K X.mg X.base k x des f) (hr : Room k X.A) (hx : ∀ σ, PassesAt (CV X.prog X.w) X σ (WE W σ)) (ha : SA X K W (e :: es) th m) (hg : Gl X x := by rfl)
    (hdb : (x == ("__debug__" : Str)) = false := by decide) (he : starEach (e :: es) X.env = (false, eval e X.env) :: starEach es X.env := by rfl) (hpl : (backTo pos (starEach es X.env)).any (·.1) = false := by rfl) :
    SE X K W (.Call (.Name x p) (e :: es) [] pos) (tCallSD (spOf K f) (des.map D.v0) (WE W) th) (evCall f des m) := by
  obtain ⟨rfl, pa, ga⟩ := ha
  obtain ⟨a, fd, ps, ds, hf, hm, hk, hb, hv, hfl⟩ := hF
  exact ⟨rfl, pe_callSD hf hr hg hm hk hb hv hx pa hdb he hpl, good_call ga hfl⟩
theorem se_call0 (hF : FnP X.prog X.w K X.mg X.base k x des f) (hr : Room k X.A) (hx : ∀ σ, PassesAt (CV X.prog X.w) X σ (WE W σ)) (hK : X.K = K := by rfl) (hg : Gl X x := by rfl)
    (hdb : (x == ("__debug__" : Str)) = false := by decide) :
    SE X K W (.Call (.Name x p) [] [] pos) (tCallSD (spOf K f) (des.map D.v0) (WE W) tNil) (evCall f des evNil) := by
  subst hK
  obtain ⟨a, fd, ps, ds, hf, hm, hk, hb, hv, hfl⟩ := hF
  exact ⟨rfl, pe_callSD0 hf hr hg hm hk hb hv hx hdb, good_call (sa_nil (W := W)).2.2 hfl⟩
/-- keywords' values -/
def SK (X : Cx) (K : PySem.W.Frag) (W : Wx) (kws : List Keyword) (ta : TA) (ev : M (List D)) : Prop := X.K = K ∧ PK X kws ta ∧ GoodA K W ta ev
theorem sk_nil (hK : X.K = K := by rfl) : SK X K W [] tNil evNil := ⟨hK, pk_nil, (sa_nil (X := X) (W := W) (K := K) hK).2.2⟩
theorem good_cons {te : TE} {ev : M Va} {t : TA} {evs : M (List D)} (ge : GoodE K W te ev) (ga : GoodA K W t evs) : GoodA K W (tCons te t) (evCons ev evs) := fun E F al H σ s rel => by
  refine Sat.bind (u := fun x H1 Q => t σ H1 fun xs H2 => Q (x :: xs) H2) LR.low (ge E F al H σ s rel).esc fun d s1 w1 F1 al1 H1 _ rel1 st1 v1 => ?_
  refine Sat.bind (u := fun xs H2 Q => Q (w1 :: xs) H2) LR.low (ga E F1 al1 H1 σ s1 rel1) fun ds s2 w2 F2 al2 H2 _ rel2 st2 v2 => ?_
  exact fun Q hQ => hQ _ F2 al2 H2 rel2 .refl (.cons (v1.mono st2.gr) v2)
theorem sk_cons {nm : Option Str} {kpos : Pos} {te : TE} {ev : M Va} {evs : M (List D)} (he : SE X K W e te ev) (hr : SK X K W kws th evs) : SK X K W (⟨nm, e, kpos⟩ :: kws) (tCons te th) (evCons ev evs) := by
  obtain ⟨hK, p, g⟩ := he
  obtain ⟨_, q, k⟩ := hr
  exact ⟨hK, pk_cons p q, good_cons g k⟩
theorem se_callK {ks : List Str} {g : {α : Type} → List α → List α → List α → List α} (hF : FnK X.prog X.w K X.mg X.base k x n ks g des f) (hr : Room k X.A) (hx : ∀ σ, PassesAt (CV X.prog X.w) X σ (WE W σ)) (ha : SA X K W (e :: es) th m) (hkw : SK X K W kws tk mk) (hg : Gl X x := by rfl)
    (hall : (backToKw pos (keywordEach kws X.env)).all (·.1.isSome) = true := by rfl) (hks : (backToKw pos (keywordEach kws X.env)).filterMap (·.1) = ks := by rfl)
    (hdb : (x == ("__debug__" : Str)) = false := by decide) (he : starEach (e :: es) X.env = (false, eval e X.env) :: starEach es X.env := by rfl)
    (hpl : ((backTo pos (starEach (e :: es) X.env)).any (·.1) || (backToKw pos (keywordEach kws X.env)).any (·.1.isNone)) = false := by rfl) :
    SE X K W (.Call (.Name x p) (e :: es) kws pos) (tCallNS n ks.length (spOf K f) (fun vs zs => g vs (des.map D.v0) zs) (WE W) th tk) (evCallK f g n ks.length des m mk) := by
  obtain ⟨rfl, pa, ga⟩ := ha
  obtain ⟨_, pk, gk⟩ := hkw
  obtain ⟨a, fd, ps, mv, hf, hm, hk, hb, hv⟩ := hF
  exact ⟨rfl, pe_callNS hf hr hg hm hk hb hx pa pk hall hks hdb he hpl, good_callK ga gk hv⟩
theorem se_callK0 {ks : List Str} {g : {α : Type} → List α → List α → List α → List α} (hF : FnK X.prog X.w K X.mg X.base k x 0 ks g des f) (hr : Room k X.A) (hx : ∀ σ, PassesAt (CV X.prog X.w) X σ (WE W σ)) (hkw : SK X K W kws tk mk) (hg : Gl X x := by rfl)
    (hall : (backToKw pos (keywordEach kws X.env)).all (·.1.isSome) = true := by rfl) (hks : (backToKw pos (keywordEach kws X.env)).filterMap (·.1) = ks := by rfl)
    (hdb : (x == ("__debug__" : Str)) = false := by decide)
    (hpl : ((backTo pos (starEach [] X.env)).any (·.1) || (backToKw pos (keywordEach kws X.env)).any (·.1.isNone)) = false := by rfl) :
    SE X K W (.Call (.Name x p) [] kws pos) (tCallNS 0 ks.length (spOf K f) (fun vs zs => g vs (des.map D.v0) zs) (WE W) tNil tk) (evCallK f g 0 ks.length des evNil mk) := by
  obtain ⟨rfl, pk, gk⟩ := hkw
  obtain ⟨a, fd, ps, mv, hf, hm, hk, hb, hv⟩ := hF
  exact ⟨rfl, pe_callNS0 hf hr hg hm hk hb hx pk hall hks hdb hpl, good_callK (sa_nil (X := X) (W := W)).2.2 gk hv⟩
end

/-! ### a def keeps its promise -/
theorem start_len {N : List Str} {vs : List V} (h : vs.length ≤ N.length) : (L2.start N vs).length = N.length := by
  unfold L2.start
  rw [List.length_append, List.length_map, List.length_replicate]
  omega
section
variable {P : Program} {w : World} {K : PySem.W.Frag} {mg : Str → Option Value} {base : Heap} {x qual : Str} {params : Arguments} {body : List Stmt} {scope : Scope} {dvs : List V} {kws : List (Str × V)} {f : Addr} {fd : FuncData}
theorem DatL.im_at {al : List Addr} {F : Hp} {ds : List D} {vs : List V} (d : DatL K al F ds vs) (k : Nat) {i : Nat} {sl : Sl} {v : Option V} (h1 : (ds.map Sl.im ++ List.replicate k .un)[i]? = some sl) (h2 : (vs.map some ++ List.replicate k none)[i]? = some v) : (sl = .un) ∨ ∃ e u, sl = .im e ∧ v = some u ∧ Dat K al F e u := by
  by_cases hi : i < ds.length
  · rw [List.getElem?_append_left (by rw [List.length_map]; exact hi), List.getElem?_map] at h1
    rw [List.getElem?_append_left (by rw [List.length_map, ← d.length]; exact hi), List.getElem?_map] at h2
    rw [List.getElem?_eq_getElem hi] at h1
    obtain ⟨u, hu, du⟩ := d.getD (i := i) (List.getElem?_eq_getElem hi)
    rw [hu] at h2
    cases h1; cases h2
    exact .inr ⟨_, _, rfl, rfl, du⟩
  · rw [List.getElem?_append_right (by rw [List.length_map]; omega), List.getElem?_replicate] at h1
    split at h1
    · cases h1; exact .inl rfl
    · cases h1
theorem fn_ok {N ps : List Str} {k : Nat} {sv : Sx} (F : FunD K x qual params body scope dvs kws f fd) (SC : FnScope N ps scope)
    (hb : ∀ (cdv : Value) (A : Around) (outer : List Env) (s : Shared) (H : Hp) (E : XK), Room k (A.deeper (PyProof.Rows.envOfC qual scope s.heap.objs.size f cdv)) → Bx (cxOf (CV P w) P w K mg base N qual scope f cdv A outer s H E) (fun cls d _ H => E cls d H) →
      ∃ t, SSs (cxOf (CV P w) P w K mg base N qual scope f cdv A outer s H E) K (fun cls d _ H => E cls d H) body t sv) : FnOk P w K mg base (CV P w) (k + 1) f fd ps (spOf K (fnOf ps.length N.length sv)) := by
  have len : ∀ vs H Q E, spOf K (fnOf ps.length N.length sv) vs H Q E → vs.length = ps.length := fun vs H Q E ⟨F, al, st, ds, g, d, h⟩ => by
    unfold fnOf at h
    split at h
    · rename_i hl; rw [← d.length]; exact hl
    · exact h.elim
  refine F.ok SC len fun cdv A outer s H vs Q E hr h => ?_
  have tk : L2.Takes (cxOf (CV P w) P w K mg base N qual scope f cdv A outer s H E) (fun cls d _ H => E cls d H) := L2.takes_of rfl rfl rfl rfl
  obtain ⟨t, _, p, g⟩ := hb cdv A outer s H E hr ⟨PassesOwn.leaving, tk⟩
  refine ⟨t, p, ?_⟩
  have hlen := len _ _ _ _ h
  obtain ⟨F0, al, st, ds, rg, d, h⟩ := h
  have hl : ds.length = ps.length := by rw [d.length]; exact hlen
  have hN : ps.length ≤ N.length := by
    have := congrArg List.length SC.pre
    rw [List.length_take] at this
    omega
  unfold fnOf at h
  rw [if_pos hl] at h
  have eN : N.length - vs.length = N.length - ps.length := by rw [hlen]
  have rel : Rel K ⟨F0, al, H, []⟩ F0 al H (L2.start N vs) ⟨ds.map .im ++ List.replicate (N.length - ps.length) Sl.un, st⟩ := by
    have inv : ∀ (i : Nat) (p : Bool) (o : Ob), (ds.map Sl.im ++ List.replicate (N.length - ps.length) Sl.un)[i]? ≠ some (.ow p o) := fun i p o hh => by
      rcases List.mem_append.mp (List.mem_of_getElem? hh) with m | m
      · obtain ⟨_, _, e⟩ := List.mem_map.mp m; cases e
      · cases List.eq_of_mem_replicate m
    refine ⟨rg.sub, rg.clen, rg.cell, rg.nd, by show (ds.map Sl.im ++ List.replicate (N.length - ps.length) Sl.un).length = _; rw [start_len (by omega), List.length_append, List.length_map, List.length_replicate]; omega, fun i sl v h1 h2 => ?_, fun i j p q o u a h1 => absurd h1 (inv i p o), .refl, fun i p o a h1 => absurd h1 (inv i p o)⟩
    unfold L2.start at h2
    rw [eN] at h2
    rcases d.im_at _ h1 h2 with e | ⟨e, u, rfl, rfl, q⟩
    · subst e; exact True.intro
    · exact ⟨u, rfl, q⟩
  refine g _ F0 al H _ _ _ rel ?_
  have ext : ∀ {F' : Hp} {al' : List Addr} {H' : Hp} {σ' : L2.St} {s' : S}, Rel K ⟨F0, al, H, []⟩ F' al' H' σ' s' → Ext (fun a => a ∈ al) (fun _ => False) F0 al H F' al' H' := fun r => r.ent.mono (fun a ha => by
    rcases ha with ha | ha
    · exact .inl ha
    · exact absurd ha (by simp)) (fun _ z => z.elim)
  cases hs : sv ⟨ds.map .im ++ List.replicate (N.length - ps.length) Sl.un, st⟩ with
  | nx s' =>
    rw [hs] at h
    exact fun F' al' H' σ' r _ => h .non F' al' H' r.g (ext r) .non
  | rt v s' =>
    rw [hs] at h
    cases v with
    | im e => exact fun u F' al' H' σ' r _ q _ => h u F' al' H' r.g (ext r) q
    | fr o =>
      refine fun u F' al' H' σ' r _ q _ => h u F' al' H' r.g (ext r) ?_
      obtain ⟨a, ho, e, h1, h2, h3, h4, h5, _⟩ := q
      exact ⟨a, ho, e, h1, fun m => h4 (.inl m), h2, h3, h5⟩
    | pl i => exact h.elim
  | ex xc s' =>
    rw [hs] at h
    exact fun cls dd F' al' H' σ' r _ q => h cls dd F' al' H' r.g (ext r) q
  | bk s' => rw [hs] at h; exact h.elim
  | ct s' => rw [hs] at h; exact h.elim
  | no => rw [hs] at h; exact h.elim
end
end VI
end
section
set_option Elab.async false
set_option linter.all false
set_option maxRecDepth 100000
set_option maxHeartbeats 2000000
/-! V13: borrowed arguments, built-in functions, methods that read, methods and stores that change. -/
namespace VI
open PySem PySem.Spec L2

/-! ### borrowed arguments -/
inductive VLR (K : PySem.W.Frag) (E : Ent) (Hs : Hp) (al : List Addr) (F H : Hp) (σ : L2.St) (s : S) : List V → List Va → Prop
  | nil : VLR K E Hs al F H σ s [] []
  | cons {w : V} {va : Va} {ws : List V} {vas : List Va} : VaR K E Hs al F H σ s w va → VLR K E Hs al F H σ s ws vas → VLR K E Hs al F H σ s (w :: ws) (va :: vas)
abbrev VL (K : PySem.W.Frag) (E : Ent) (σ : L2.St) : Hp → List Addr → Hp → Hp → S → List V → List Va → Prop := fun Hs al F H s ws vas => VLR K E Hs al F H σ s ws vas
theorem VL.low {K : PySem.W.Frag} {E : Ent} {σ : L2.St} : Low (VL K E σ) := fun H H1 al F' H' s' w a hl r => by
  induction r with
  | nil => exact .nil
  | cons h _ ih => exact .cons (VR.low H H1 al F' H' s' _ _ hl h) ih
theorem VLR.mono {K : PySem.W.Frag} {E : Ent} {Hs F F1 H H1 : Hp} {al al1 : List Addr} {σ : L2.St} {s s1 : S} {ws : List V} {vas : List Va} (r : VLR K E Hs al F H σ s ws vas) (a : Stp σ s s1 F al H F1 al1 H1) : VLR K E Hs al1 F1 H1 σ s1 ws vas := by
  induction r with
  | nil => exact .nil
  | cons h _ ih => exact .cons (h.mono a) ih
def GoodV (K : PySem.W.Frag) (W : Wx) (ta : TA) (ev : M (List Va)) : Prop := ∀ (E : Ent) (F : Hp) (al : List Addr) (H : Hp) (σ : L2.St) (s : S), Rel K E F al H σ s → Sat K E W (VL K E σ) F al H σ s (ta σ H) (ev s)
def SV (X : Cx) (K : PySem.W.Frag) (W : Wx) (es : List Expr) (ta : TA) (ev : M (List Va)) : Prop := X.K = K ∧ PA X es ta ∧ GoodV K W ta ev
def evNilV : M (List Va) := pure []
def evConsV (m : M Va) (r : M (List Va)) : M (List Va) := m >>= fun v => r >>= fun vs => pure (v :: vs)
def rdAll (s : S) : List Va → Option (List D)
  | [] => some []
  | v :: vs => match rd v s, rdAll s vs with
    | some d, some ds => some (d :: ds)
    | _, _ => none
inductive RdL (K : PySem.W.Frag) (al : List Addr) (F H : Hp) : List D → List V → Prop
  | nil : RdL K al F H [] []
  | cons {d : D} {w : V} {ds : List D} {ws : List V} : Rdr K al F H d w → RdL K al F H ds ws → RdL K al F H (d :: ds) (w :: ws)
theorem rdAll_ok {K : PySem.W.Frag} {E : Ent} {Hs F H : Hp} {al : List Addr} {σ : L2.St} {s : S} {ws : List V} {vas : List Va} (rel : Rel K E F al H σ s) (r : VLR K E Hs al F H σ s ws vas) : ∀ {ds : List D}, rdAll s vas = some ds → RdL K al F H ds ws := by
  induction r with
  | nil => intro ds h; cases h; exact .nil
  | cons h _ ih =>
    intro ds e
    unfold rdAll at e
    split at e
    · rename_i d ds hd hds
      cases e
      exact .cons (rd_ok rel h hd) (ih hds)
    · cases e
theorem RdL.one {K : PySem.W.Frag} {al : List Addr} {F H : Hp} {d : D} {ws : List V} (h : RdL K al F H [d] ws) : ∃ w, ws = [w] ∧ Rdr K al F H d w := by
  obtain _ | ⟨h1, h2⟩ := h
  cases h2
  exact ⟨_, rfl, h1⟩
theorem RdL.two {K : PySem.W.Frag} {al : List Addr} {F H : Hp} {d e : D} {ws : List V} (h : RdL K al F H [d, e] ws) : ∃ w u, ws = [w, u] ∧ Rdr K al F H d w ∧ Rdr K al F H e u := by
  obtain _ | ⟨h1, h2⟩ := h
  obtain ⟨u, rfl, h3⟩ := h2.one
  exact ⟨_, u, rfl, h1, h3⟩
section
variable {X : Cx} {W : Wx} {K : PySem.W.Frag}
theorem good_nilV : GoodV K W tNil evNilV := fun E F al H σ s rel => fun Q hQ => hQ [] F al H rel .refl .nil
theorem good_consV {te : TE} {t : TA} {ev : M Va} {evs : M (List Va)} (ge : GoodE K W te ev) (ga : GoodV K W t evs) : GoodV K W (tCons te t) (evConsV ev evs) := fun E F al H σ s rel => by
  refine Sat.bind2 (u := fun x H1 Q => t σ H1 fun xs H2 => Q (x :: xs) H2) (ge E F al H σ s rel) fun va s1 w1 F1 al1 H1 _ rel1 st1 v1 => ?_
  have q := ga E F1 al1 H1 σ s1 rel1
  rw [M.bind_run]
  cases hm : evs s1 with
  | no => exact True.intro
  | ex x s2 =>
    rw [hm] at q
    exact fun Q hQ => q _ fun cls d F2 al2 H2 rel2 st2 x2 => hQ cls d F2 al2 H2 rel2 (st1.trans st2) x2
  | ok vs s2 =>
    rw [hm] at q
    exact fun Q hQ => q _ fun ws F2 al2 H2 rel2 st2 v2 => hQ _ F2 al2 H2 rel2 (st1.trans st2) (.cons (v1.mono st2) (VL.low _ _ _ _ _ _ _ _ st1.ext.live v2))
theorem sv_nil (hK : X.K = K := by rfl) : SV X K W [] tNil evNilV := ⟨hK, pa_nil, good_nilV⟩
theorem sv_cons {e : Expr} {es : List Expr} {te : TE} {t : TA} {ev : M Va} {evs : M (List Va)} (he : SE X K W e te ev) (hr : SV X K W es t evs) (hs : starEach (e :: es) X.env = (false, eval e X.env) :: starEach es X.env := by rfl) : SV X K W (e :: es) (tCons te t) (evConsV ev evs) := by
  obtain ⟨rfl, pe, ge⟩ := he
  obtain ⟨_, pa, ga⟩ := hr
  exact ⟨rfl, pa_cons pe pa hs, good_consV ge ga⟩

/-! ### built-in functions -/
/-- r carries f out on values that are read -/
def BlS (K : PySem.W.Frag) (r : List V → Hp → VK → Prop) (f : List D → Option Va) : Prop := ∀ (E : Ent) (F : Hp) (al : List Addr) (H : Hp) (σ : L2.St) (s : S) (ws : List V) (ps : List D) (va : Va), Rel K E F al H σ s → RdL K al F H ps ws → f ps = some va →
  ∀ Q : VK, (∀ w F' al' H', Rel K E F' al' H' σ s → Stp σ s s F al H F' al' H' → VaR K E H al' F' H' σ s w va → Q w H') → r ws H Q
theorem BlS.or {r r' : List V → Hp → VK → Prop} {f f' : List D → Option Va} (h : BlS K r f) (h' : BlS K r' f') : BlS K (fun xs H Q => r xs H Q ∨ r' xs H Q) (fun ps => match f ps with
    | some v => some v
    | none => f' ps) := fun E F al H σ s ws ps va rel rr e Q hQ => by
  have e : (match f ps with
    | some v => some v
    | none => f' ps) = some va := e
  cases hf : f ps with
  | some v => rw [hf] at e; exact .inl (h E F al H σ s ws ps va rel rr (by rw [hf]; exact e) Q hQ)
  | none => rw [hf] at e; exact .inr (h' E F al H σ s ws ps va rel rr e Q hQ)
theorem CallR.or {u : Value} {r r' : List V → Hp → VK → Prop} (h : CallR X u r) (h' : CallR X u r') : CallR X u (fun xs H Q => r xs H Q ∨ r' xs H Q) := fun pins s σ H xs us Q I rr hq => hq.elim (h pins s σ H xs us Q I rr) (h' pins s σ H xs us Q I rr)
def evBl (f : List D → Option Va) (m : M (List Va)) : M Va := m >>= fun vas s => match (rdAll s vas).bind f with
  | some v => .ok v s
  | none => .no
theorem good_bl {r : List V → Hp → VK → Prop} {f : List D → Option Va} {ta : TA} {m : M (List Va)} (hs : BlS K r f) (ga : GoodV K W ta m) : GoodE K W (tCB r ta) (evBl f m) := fun E F al H σ s rel => by
  refine Sat.bind (u := fun vs H1 Q => r vs H1 Q) VR.low (ga E F al H σ s rel) fun vas s1 ws F1 al1 H1 _ rel1 st1 v1 => ?_
  show Sat K E W (VR K E σ) F1 al1 H1 σ s1 _ (match (rdAll s1 vas).bind f with
    | some v => .ok v s1
    | none => .no)
  cases hr : rdAll s1 vas with
  | none => exact True.intro
  | some ps =>
    show Sat K E W (VR K E σ) F1 al1 H1 σ s1 _ (match f ps with
      | some v => .ok v s1
      | none => .no)
    cases hf : f ps with
    | none => exact True.intro
    | some v => exact fun Q hQ => hs E F1 al1 H1 σ s1 ws ps v rel1 (rdAll_ok rel1 v1 hr) hf Q hQ
theorem se_blt {x : Str} {id : String} {r : List V → Hp → VK → Prop} {f : List D → Option Va} {e : Expr} {es : List Expr} {p pos : Pos} {th : TA} {m : M (List Va)} (hc : CallR X (.builtin id) r) (hs : BlS K r f) (hv : bootBuiltins x = some (.builtin id)) (hm : X.mg x = none) (ha : SV X K W (e :: es) th m) (hg : Gl X x := by rfl) (hn : x ≠ "__name__" := by decide) (hdb : (x == ("__debug__" : Str)) = false := by decide)
    (he : starEach (e :: es) X.env = (false, eval e X.env) :: starEach es X.env := by rfl) (hpl : (backTo pos (starEach es X.env)).any (·.1) = false := by rfl) : SE X K W (.Call (.Name x p) (e :: es) [] pos) (tCB r th) (evBl f m) := by
  obtain ⟨rfl, pa, ga⟩ := ha
  exact ⟨rfl, pe_callB hc hg hm hv pa hn hdb he hpl, good_bl hs ga⟩
theorem se_ty {x : Str} {id : String} {r : List V → Hp → VK → Prop} {f : List D → Option Va} {e : Expr} {es : List Expr} {p pos : Pos} {th : TA} {m : M (List Va)} (hc : CallR X (.type id) r) (hs : BlS K r f) (hv : bootBuiltins x = some (.type id)) (hm : X.mg x = none) (ha : SV X K W (e :: es) th m) (hg : Gl X x := by rfl) (hn : x ≠ "__name__" := by decide) (hdb : (x == ("__debug__" : Str)) = false := by decide)
    (he : starEach (e :: es) X.env = (false, eval e X.env) :: starEach es X.env := by rfl) (hpl : (backTo pos (starEach es X.env)).any (·.1) = false := by rfl) : SE X K W (.Call (.Name x p) (e :: es) [] pos) (tCB r th) (evBl f m) := by
  obtain ⟨rfl, pa, ga⟩ := ha
  exact ⟨rfl, pe_callTy hc hg hm hv pa hn hdb he hpl, good_bl hs ga⟩
/-- a built-in type as a value -/
theorem se_tyv {x : Str} {n : String} {pos : Pos} (hv : bootBuiltins x = some (.type n)) (hm : X.mg x = none) (hK : X.K = K := by rfl) (hg : Gl X x := by rfl) (hn : x ≠ "__name__" := by decide) (hdb : (x == ("__debug__" : Str)) = false := by decide) : SE X K W (.Name x pos) (tC (.ty n)) (evC (.ty n)) :=
  ⟨hK, ⟨fun pins s σ H Q I h => ld_blt I hg hm hv ⟨.ty n, H, I, rfl, h⟩ hn hdb⟩, good_c fun _ _ => .ty n⟩
/-! ### len -/
def fLen : List D → Option Va
  | [.lst xs] => some (.im (.int xs.length))
  | [.tup xs] => some (.im (.int xs.length))
  | [.lz xs] => some (.im (.int xs.length))
  | [.tz xs] => some (.im (.int xs.length))
  | [.str z] => if z.length ≤ sizeLine then some (.im (.int z.length)) else none
  | _ => none
def rLenX (K : PySem.W.Frag) : List V → Hp → VK → Prop := fun xs H Q => (fun xs H Q => ∃ p ys, xs = [V.ref p] ∧ (SqL K H p ys ∨ SqT K H p ys) ∧ Q (.int ys.length) H) xs H Q ∨ (fun xs H Q => ∃ z, xs = [V.str z] ∧ z.length ≤ sizeLine ∧ Q (.int z.length) H) xs H Q
theorem call_lenX : CallR X (.builtin "len") (rLenX X.K) := CallR.or call_len_seq call_len_str
theorem bls_len : BlS K (rLenX K) fLen := fun E F al H σ s ws ps va rel rr e Q hQ => by
  unfold fLen at e
  split at e
  · cases e
    obtain ⟨w, rfl, r⟩ := rr.one
    obtain ⟨a, vs, rfl, h1, l, _⟩ := r.lst rel.sub
    refine .inl ⟨a, vs, rfl, .inl (.of h1), ?_⟩
    rw [← l.length]
    exact fin_d rel (.int _) hQ
  · cases e
    obtain ⟨w, rfl, r⟩ := rr.one
    obtain ⟨a, vs, rfl, h1, l, _⟩ := r.tup rel.sub
    refine .inl ⟨a, vs, rfl, .inr (.of h1), ?_⟩
    rw [← l.length]
    exact fin_d rel (.int _) hQ
  · cases e
    obtain ⟨w, rfl, r⟩ := rr.one
    obtain ⟨a, vs, rfl, h1, l, _⟩ := r.lz rel.sub
    refine .inl ⟨a, vs, rfl, .inl h1, ?_⟩
    rw [← l.length]
    exact fin_d rel (.int _) hQ
  · cases e
    obtain ⟨w, rfl, r⟩ := rr.one
    obtain ⟨a, vs, rfl, h1, l, _⟩ := r.tz rel.sub
    refine .inl ⟨a, vs, rfl, .inr h1, ?_⟩
    rw [← l.length]
    exact fin_d rel (.int _) hQ
  · split at e
    · rename_i hz
      cases e
      obtain ⟨w, rfl, r⟩ := rr.one
      cases r.str
      exact .inr ⟨_, rfl, hz, fin_d rel (.int _) hQ⟩
    · cases e
  · cases e
theorem se_len {x p pos} {e : Expr} {th : TA} {m : M (List Va)} (hm : X.mg "len" = none) (ha : SV X K W [e] th m) (hx : x = ("len" : Str) := by rfl) (hg : Gl X "len" := by rfl)
    (he : starEach [e] X.env = [(false, eval e X.env)] := by rfl) : SE X K W (.Call (.Name x p) [e] [] pos) (tCB (rLenX K) th) (evBl fLen m) := by
  subst hx
  obtain ⟨rfl, _⟩ := id ha
  exact se_blt call_lenX bls_len PySem.boot_len hm ha hg (by decide) (by decide) he rfl
/-! ### max, min, int -/
def fMax2 : List D → Option Va
  | [.int i, .int j] => some (.im (.int (if j > i then j else i)))
  | _ => none
def fMin2 : List D → Option Va
  | [.int i, .int j] => some (.im (.int (if j < i then j else i)))
  | _ => none
def fInt : List D → Option Va
  | [.int i] => some (.im (.int i))
  | [.bl b] => some (.im (.int (if b then 1 else 0)))
  | _ => none
abbrev rMax2 : List V → Hp → VK → Prop := fun xs H Q => ∃ i j, xs = [V.int i, .int j] ∧ Q (.int (if j > i then j else i)) H
abbrev rMin2 : List V → Hp → VK → Prop := fun xs H Q => ∃ i j, xs = [V.int i, .int j] ∧ Q (.int (if j < i then j else i)) H
abbrev rInt1 : List V → Hp → VK → Prop := fun xs H Q => (∃ i, xs = [V.int i] ∧ Q (.int i) H) ∨ ∃ k, xs = [.bl k] ∧ Q (.int (if k then 1 else 0)) H
theorem bls_max : BlS K rMax2 fMax2 := fun E F al H σ s ws ps va rel rr e Q hQ => by
  unfold fMax2 at e
  split at e
  · cases e
    obtain ⟨w, u, rfl, r, q⟩ := rr.two
    cases r.int; cases q.int
    exact ⟨_, _, rfl, fin_d rel (.int _) hQ⟩
  · cases e
theorem bls_min : BlS K rMin2 fMin2 := fun E F al H σ s ws ps va rel rr e Q hQ => by
  unfold fMin2 at e
  split at e
  · cases e
    obtain ⟨w, u, rfl, r, q⟩ := rr.two
    cases r.int; cases q.int
    exact ⟨_, _, rfl, fin_d rel (.int _) hQ⟩
  · cases e
theorem bls_int : BlS K rInt1 fInt := fun E F al H σ s ws ps va rel rr e Q hQ => by
  unfold fInt at e
  split at e
  · cases e
    obtain ⟨w, rfl, r⟩ := rr.one
    cases r.int
    exact .inl ⟨_, rfl, fin_d rel (.int _) hQ⟩
  · cases e
    obtain ⟨w, rfl, r⟩ := rr.one
    cases r.bl
    exact .inr ⟨_, rfl, fin_d rel (.int _) hQ⟩
  · cases e
theorem se_max {x p pos} {a b : Expr} {th : TA} {m : M (List Va)} (hm : X.mg "max" = none) (ha : SV X K W [a, b] th m) (hc : X.calm = true := by rfl) (hx : x = ("max" : Str) := by rfl) (hg : Gl X "max" := by rfl)
    (he : starEach [a, b] X.env = (false, eval a X.env) :: starEach [b] X.env := by rfl) (hpl : (backTo pos (starEach [b] X.env)).any (·.1) = false := by rfl) : SE X K W (.Call (.Name x p) [a, b] [] pos) (tCB rMax2 th) (evBl fMax2 m) := by
  subst hx
  exact se_blt (call_max2 hc) bls_max PyProof.Rows.boot_max hm ha hg (by decide) (by decide) he hpl
theorem se_min {x p pos} {a b : Expr} {th : TA} {m : M (List Va)} (hm : X.mg "min" = none) (ha : SV X K W [a, b] th m) (hc : X.calm = true := by rfl) (hx : x = ("min" : Str) := by rfl) (hg : Gl X "min" := by rfl)
    (he : starEach [a, b] X.env = (false, eval a X.env) :: starEach [b] X.env := by rfl) (hpl : (backTo pos (starEach [b] X.env)).any (·.1) = false := by rfl) : SE X K W (.Call (.Name x p) [a, b] [] pos) (tCB rMin2 th) (evBl fMin2 m) := by
  subst hx
  exact se_blt (call_min2 hc) bls_min PyProof.Rows.boot_min hm ha hg (by decide) (by decide) he hpl
theorem se_int1 {x p pos} {a : Expr} {th : TA} {m : M (List Va)} (hm : X.mg "int" = none) (ha : SV X K W [a] th m) (hx : x = ("int" : Str) := by rfl) (hg : Gl X "int" := by rfl)
    (he : starEach [a] X.env = [(false, eval a X.env)] := by rfl) : SE X K W (.Call (.Name x p) [a] [] pos) (tCB rInt1 th) (evBl fInt m) := by
  subst hx
  exact se_ty call_int1 bls_int PyProof.Rows.boot_int hm ha hg (by decide) (by decide) he rfl
/-! ### isinstance -/
def tyN : D → Option String
  | .non => some "NoneType"
  | .bl _ => some "bool"
  | .int _ => some "int"
  | .str _ => some "str"
  | .lst _ => some "list"
  | .lz _ => some "list"
  | .tup _ => some "tuple"
  | .tz _ => some "tuple"
  | .dk _ => some "dict"
  | _ => none
def isB (a b : String) : Option Bool :=
  if a = b then some true else if a = "bool" ∧ b = "int" then some true else if b = "int" ∨ b = "str" ∨ b = "list" ∨ b = "tuple" ∨ b = "dict" ∨ b = "bool" then some false else none
def fIsi : List D → Option Va
  | [p, .ty c] => (match tyN p with
    | some t => (isB t c).map fun b => .im (.bl b)
    | none => none)
  | _ => none
theorem isB_kit (a : String) (ha : a = "NoneType" ∨ a = "bool" ∨ a = "int" ∨ a = "str" ∨ a = "list" ∨ a = "tuple" ∨ a = "dict") {b : String} {r : Bool} (h : isB a b = some r) : kitB a b = some r := by
  unfold isB at h
  split at h
  · rename_i e
    cases h; subst e
    unfold kitB
    rw [if_pos (by simp)]
  · split at h
    · rename_i e
      cases h
      obtain ⟨rfl, rfl⟩ := e
      decide +kernel
    · split at h
      · rename_i hne h2 h3
        cases h
        rcases h3 with rfl | rfl | rfl | rfl | rfl | rfl <;> rcases ha with rfl | rfl | rfl | rfl | rfl | rfl | rfl <;> first | (exact absurd rfl hne) | (exact absurd ⟨rfl, rfl⟩ h2) | decide +kernel
      · cases h
theorem tyN_ok {al : List Addr} {F H : Hp} {p : D} {w : V} {t : String} (hs : Sub F H) (r : Rdr K al F H p w) (h : tyN p = some t) : TyX K H w (.type t) ∧ (t = "NoneType" ∨ t = "bool" ∨ t = "int" ∨ t = "str" ∨ t = "list" ∨ t = "tuple" ∨ t = "dict") := by
  unfold tyN at h
  split at h
  · cases h; cases r.non; exact ⟨.base .non, by simp⟩
  · cases h; cases r.bl; exact ⟨.base (.bl _), by simp⟩
  · cases h; cases r.int; exact ⟨.base (.int _), by simp⟩
  · cases h; cases r.str; exact ⟨.base (.str _), by simp⟩
  · cases h
    obtain ⟨a, vs, rfl, h1, _⟩ := r.lst hs
    exact ⟨.base (.lst h1), by simp⟩
  · cases h
    obtain ⟨a, vs, rfl, h1, _⟩ := r.lz hs
    rcases h1 with (h1 | ⟨o, h1⟩) | ⟨o, its, n, e, hc, _⟩
    · exact ⟨.base (.lst h1), by simp⟩
    · exact ⟨.base (.frz h1), by simp⟩
    · exact ⟨.kList e hc, by simp⟩
  · cases h
    obtain ⟨a, vs, rfl, h1, _⟩ := r.tup hs
    exact ⟨.base (.tup h1), by simp⟩
  · cases h
    obtain ⟨a, vs, rfl, h1, _⟩ := r.tz hs
    rcases h1 with (h1 | ⟨o, h1⟩) | ⟨o, its, n, e, hc, _⟩
    · exact ⟨.base (.tup h1), by simp⟩
    · exact ⟨.fTuple h1, by simp⟩
    · exact ⟨.kTuple e hc, by simp⟩
  · cases h
    obtain ⟨a, vs, rfl, h1, _⟩ := r.dk hs
    rcases h1 with h1 | ⟨o, h1⟩
    · exact ⟨.base (.dK h1), by simp⟩
    · exact ⟨.fDict h1, by simp⟩
  · cases h
theorem bls_isi : BlS K (rIsi K) fIsi := fun E F al H σ s ws ps va rel rr e Q hQ => by
  unfold fIsi at e
  split at e
  · rename_i p c
    split at e
    · rename_i t ht
      cases hb : isB t c with
      | none => rw [hb] at e; cases e
      | some b =>
        rw [hb] at e
        cases e
        obtain ⟨w, u, rfl, r, q⟩ := rr.two
        rcases q with ⟨q, _⟩ | ⟨a, ho, o, e, h1, h2, h3⟩
        · cases q
          obtain ⟨ty, hm⟩ := tyN_ok rel.sub r ht
          exact ⟨w, _, _, _, b, rfl, .ty c, ty, kit_ty (isB_kit t hm hb), fin_d rel (.bl b) hQ⟩
        · cases o <;> cases h3
    · cases e
  · cases e
theorem se_isi {x p pos} {a b : Expr} {th : TA} {m : M (List Va)} (hm : X.mg "isinstance" = none) (ha : SV X K W [a, b] th m) (hx : x = ("isinstance" : Str) := by rfl) (hg : Gl X "isinstance" := by rfl)
    (he : starEach [a, b] X.env = (false, eval a X.env) :: starEach [b] X.env := by rfl) (hpl : (backTo pos (starEach [b] X.env)).any (·.1) = false := by rfl) : SE X K W (.Call (.Name x p) [a, b] [] pos) (tCB (rIsi K) th) (evBl fIsi m) := by
  subst hx
  obtain ⟨rfl, _⟩ := id ha
  exact se_blt call_isi bls_isi PyProof.Rows.boot_isinstance hm ha hg (by decide) (by decide) he hpl
end
end VI
end
section
set_option Elab.async false
set_option linter.all false
set_option maxRecDepth 100000
set_option maxHeartbeats 2000000
/-! V14: containers that are changed: stores, methods; methods of texts. -/
namespace VI
open PySem PySem.Spec L2

/-- the content of a container that a slot owns or a cell holds -/
def obV (v : Va) (s : S) : Option Ob := match v with
  | .pl i => (match s.env[i]? with
    | some (.ow _ o) => some o
    | _ => none)
  | .im (.ref j) => s.st[j]?
  | _ => none
def putV (v : Va) (o : Ob) (s : S) : S := match v with
  | .pl i => (match s.env[i]? with
    | some (.ow p _) => { s with env := s.env.set i (.ow p o) }
    | _ => s)
  | .im (.ref j) => { s with st := s.st.set j o }
  | _ => s
section
variable {X : Cx} {W : Wx} {K : PySem.W.Frag}
theorem Rel.putV {E : Ent} {Hs F H : Hp} {al : List Addr} {σ : L2.St} {s : S} {w : V} {va : Va} {o : Ob} (rel : Rel K E F al H σ s) (v : VaR K E Hs al F H σ s w va) (h : obV va s = some o) :
    ∃ a ho, w = .ref a ∧ H a = some ho ∧ ObR K al F o ho ∧ ∀ (o' : Ob) (ho' : HO), ObR K al F o' ho' → Rel K E F al (upd H a ho') σ (VI.putV va o' s) ∧ Stp σ s (VI.putV va o' s) F al H F al (upd H a ho') := by
  cases va with
  | fr o => cases h
  | im d =>
    cases d with
    | ref j =>
      have h : s.st[j]? = some o := h
      cases (show Dat K al F (.ref j) w from v) with
      | ref g =>
        rename_i a
        obtain ⟨hF, ho, h1, h2⟩ := rel.cell j a o g h
        refine ⟨a, ho, rfl, h1, h2, fun o' ho' q => ?_⟩
        have hj : j < s.st.length := (List.getElem?_eq_some_iff.mp h).1
        refine ⟨⟨rel.sub.put hF, by show al.length = (s.st.set j o').length; rw [List.length_set]; exact rel.clen, fun i b u g1 g2 => ?_, rel.nd, rel.elen, fun i sl x g1 g2 => ?_, rel.own, rel.ent.trans (Ext.put (T := fun x => x = a) (Z := fun _ => False) rfl) (fun x z => by
          have z : x = a := z
          subst z
          obtain ⟨l, e, n⟩ := rel.ent.al
          have m : x ∈ al := List.mem_of_getElem? g
          rw [e] at m
          rcases List.mem_append.mp m with m | m
          · exact .inl (.inl m)
          · exact .inr (n x m)) (fun _ z => z.elim), rel.onew⟩, .put (.inl (List.mem_of_getElem? g)), .refl _⟩
        · rcases set_get g2 with ⟨e, e2, _⟩ | ⟨e, g2⟩
          · subst e e2
            rw [g] at g1; cases g1
            exact ⟨hF, ho', upd_same, q⟩
          · obtain ⟨c1, hb, c2, c3⟩ := rel.cell i b u g1 g2
            have ne : b ≠ a := fun z => by
              subst z
              have hi := (List.getElem?_eq_some_iff.mp g1).1
              exact e ((List.getElem?_inj hi rel.nd).mp (by rw [g, g1])).symm
            exact ⟨c1, hb, by rw [upd_ne ne]; exact c2, c3⟩
        · have q2 := rel.env i sl x g1 g2
          cases sl with
          | un => exact True.intro
          | im d => exact q2
          | ow p u =>
            obtain ⟨b, hb, e, c1, c2, c3, c4⟩ := q2
            have ne : b ≠ a := fun z => by
              subst z; exact c2 (List.mem_of_getElem? g)
            exact ⟨b, hb, e, c1, c2, by rw [upd_ne ne]; exact c3, c4⟩
    | _ => cases h
  | pl i =>
    obtain ⟨hw, sl, hs, hn⟩ := v
    have h : (match s.env[i]? with
      | some (.ow _ o) => some o
      | _ => none) = some o := h
    rw [hs] at h
    cases sl with
    | un => cases h
    | im d => cases h
    | ow p u =>
      cases h
      obtain ⟨a, ho, e, c1, c2, c3, c4⟩ := rel.env i _ _ hs hw
      cases e
      refine ⟨a, ho, rfl, c3, c4, fun o' ho' q => ?_⟩
      have es : VI.putV (.pl i) o' s = { s with env := s.env.set i (.ow p o') } := by
        show (match s.env[i]? with
          | some (.ow p _) => { s with env := s.env.set i (.ow p o') }
          | _ => s) = _
        rw [hs]
      rw [es]
      have hi : i < s.env.length := (List.getElem?_eq_some_iff.mp hs).1
      have back : ∀ {j : Nat} {p' : Bool} {u' : Ob}, (s.env.set i (.ow p o'))[j]? = some (.ow p' u') → ∃ u2, s.env[j]? = some (.ow p' u2) := fun {j p' u'} g => by
        rcases set_get g with ⟨e, e2, _⟩ | ⟨_, g⟩
        · cases e2; subst e; exact ⟨_, hs⟩
        · exact ⟨_, g⟩
      refine ⟨⟨rel.sub.put c1, rel.clen, fun j b u2 g1 g2 => ?_, rel.nd, by show (s.env.set i _).length = _; rw [List.length_set]; exact rel.elen, fun j sl x g1 g2 => ?_, fun j k p1 p2 u1 u2 b g1 g2 g3 g4 => ?_, rel.ent.trans (Ext.put (T := fun x => x = a) (Z := fun _ => False) rfl) (fun x z => ?_) (fun _ z => z.elim), fun j p1 u1 b g1 g2 => ?_⟩, .put (.inr ⟨i, p, _, hs, hw⟩), by show (s.env.set i _).length = _; rw [List.length_set], fun j sl sl' g1 g2 => ?_⟩
      · obtain ⟨d1, hb, d2, d3⟩ := rel.cell j b u2 g1 g2
        have ne : b ≠ a := fun z => by
          subst z; exact c2 (List.mem_of_getElem? g1)
        exact ⟨d1, hb, by rw [upd_ne ne]; exact d2, d3⟩
      · rcases set_get g1 with ⟨e, e2, _⟩ | ⟨e, g1⟩
        · subst e e2
          rw [hw] at g2; cases g2
          exact ⟨a, ho', rfl, c1, c2, upd_same, q⟩
        · have q2 := rel.env j sl x g1 g2
          cases sl with
          | un => exact True.intro
          | im d => exact q2
          | ow p1 u1 =>
            obtain ⟨b, hb, e3, d1, d2, d3, d4⟩ := q2
            subst e3
            have ne : b ≠ a := fun z => e (rel.own i j _ _ _ _ a hs g1 hw (z ▸ g2))
            exact ⟨b, hb, rfl, d1, d2, by rw [upd_ne ne]; exact d3, d4⟩
      · obtain ⟨_, g1⟩ := back g1
        obtain ⟨_, g2⟩ := back g2
        exact rel.own j k _ _ _ _ b g1 g2 g3 g4
      · have z : x = a := z
        subst z
        have q3 := rel.onew i p _ x hs hw
        cases p with
        | true => exact .inl (.inr (by simpa using q3))
        | false => exact .inr (by simpa using q3)
      · obtain ⟨_, g1⟩ := back g1
        exact rel.onew j p1 _ b g1 g2
      · rcases set_get g2 with ⟨e, e2, _⟩ | ⟨e, g2⟩
        · subst e e2
          rw [hs] at g1; cases g1
          exact .inl ⟨_, rfl⟩
        · rw [g1] at g2; cases g2; exact SlS.refl _

/-! ### o[i] = v -/
def putE {κ : Type} [DecidableEq κ] (kvs : List (κ × D)) (k : κ) (v : D) : List (κ × D) :=
  if (kvs.any fun kv => decide (kv.1 = k)) = true then kvs.map (fun kv => if kv.1 = k then (kv.1, v) else kv) else kvs ++ [(k, v)]
theorem DatK.any {al : List Addr} {F : Hp} {ds : List (Key × D)} {vs : List (Key × V)} (h : DatK K al F ds vs) (f : Key → Bool) : (ds.any fun kv => f kv.1) = vs.any fun kv => f kv.1 := by
  induction ds generalizing vs with
  | nil => cases h; rfl
  | cons a ds ih => cases h with
    | cons q t => simp only [List.any_cons, ih t]
theorem DatT.any {al : List Addr} {F : Hp} {ds : List (List Key × D)} {vs : List (List Key × V)} (h : DatT K al F ds vs) (f : List Key → Bool) : (ds.any fun kv => f kv.1) = vs.any fun kv => f kv.1 := by
  induction ds generalizing vs with
  | nil => cases h; rfl
  | cons a ds ih => cases h with
    | cons q t => simp only [List.any_cons, ih t]
theorem DatK.app {al : List Addr} {F : Hp} {ds es : List (Key × D)} {vs us : List (Key × V)} (h : DatK K al F ds vs) (g : DatK K al F es us) : DatK K al F (ds ++ es) (vs ++ us) := by
  induction ds generalizing vs with
  | nil => cases h; exact g
  | cons a ds ih => cases h with
    | cons q t => exact .cons q (ih t)
theorem DatT.app {al : List Addr} {F : Hp} {ds es : List (List Key × D)} {vs us : List (List Key × V)} (h : DatT K al F ds vs) (g : DatT K al F es us) : DatT K al F (ds ++ es) (vs ++ us) := by
  induction ds generalizing vs with
  | nil => cases h; exact g
  | cons a ds ih => cases h with
    | cons q t => exact .cons q (ih t)
theorem DatK.over {al : List Addr} {F : Hp} {ds : List (Key × D)} {vs : List (Key × V)} (h : DatK K al F ds vs) (k : Key) {d : D} {v : V} (e : Dat K al F d v) : DatK K al F (ds.map fun kv => if kv.1 = k then (kv.1, d) else kv) (vs.map fun kv => if kv.1 = k then (kv.1, v) else kv) := by
  induction ds generalizing vs with
  | nil => cases h; exact .nil
  | cons a ds ih => cases h with
    | cons q t =>
      rename_i k' d' v' vs'
      simp only [List.map_cons]
      by_cases hk : k' = k
      · rw [if_pos hk, if_pos hk]; exact .cons e (ih t)
      · rw [if_neg hk, if_neg hk]; exact .cons q (ih t)
theorem DatT.over {al : List Addr} {F : Hp} {ds : List (List Key × D)} {vs : List (List Key × V)} (h : DatT K al F ds vs) (k : List Key) {d : D} {v : V} (e : Dat K al F d v) : DatT K al F (ds.map fun kv => if kv.1 = k then (kv.1, d) else kv) (vs.map fun kv => if kv.1 = k then (kv.1, v) else kv) := by
  induction ds generalizing vs with
  | nil => cases h; exact .nil
  | cons a ds ih => cases h with
    | cons q t =>
      rename_i k' d' v' vs'
      simp only [List.map_cons]
      by_cases hk : k' = k
      · rw [if_pos hk, if_pos hk]; exact .cons e (ih t)
      · rw [if_neg hk, if_neg hk]; exact .cons q (ih t)
theorem DatK.put {al : List Addr} {F : Hp} {ds : List (Key × D)} {vs : List (Key × V)} (h : DatK K al F ds vs) (k : Key) {d : D} {v : V} (e : Dat K al F d v) : DatK K al F (putE ds k d) (putK vs k v) := by
  unfold putE putK
  rw [h.any fun x => decide (x = k)]
  split
  · exact h.over k e
  · exact h.app (.cons e .nil)
theorem DatT.put {al : List Addr} {F : Hp} {ds : List (List Key × D)} {vs : List (List Key × V)} (h : DatT K al F ds vs) (k : List Key) {d : D} {v : V} (e : Dat K al F d v) : DatT K al F (putE ds k d) (putK vs k v) := by
  unfold putE putK
  rw [h.any fun x => decide (x = k)]
  split
  · exact h.over k e
  · exact h.app (.cons e .nil)
theorem DatK.length {al : List Addr} {F : Hp} {ds : List (Key × D)} {vs : List (Key × V)} (h : DatK K al F ds vs) : ds.length = vs.length := by
  induction ds generalizing vs with
  | nil => cases h; rfl
  | cons a ds ih => cases h with
    | cons q t => simp only [List.length_cons, ih t]
theorem DatT.length {al : List Addr} {F : Hp} {ds : List (List Key × D)} {vs : List (List Key × V)} (h : DatT K al F ds vs) : ds.length = vs.length := by
  induction ds generalizing vs with
  | nil => cases h; rfl
  | cons a ds ih => cases h with
    | cons q t => simp only [List.length_cons, ih t]
def fStore : Ob → D → D → Option Ob
  | .lst xs, .int i, v => (ixN xs.length i).map fun j => .lst (xs.set j v)
  | .dk kvs, p, v => (match p.key with
    | some k => if kvs.length < sizeLine then some (.dk (putE kvs k v)) else none
    | none => none)
  | .dt kvs, .tup ps, v => (match keysOf ps with
    | some k => if kvs.length < sizeLine then some (.dt (putE kvs k v)) else none
    | none => none)
  | _, _, _ => none
/-- value, object, index -/
def svStore (ev eo ei : M Va) : Sx := svLet ((ev >>= esc) >>= fun d => eo >>= fun o => ei >>= fun i => pure (d, o, i)) fun r s => match obV r.2.1 s, rd r.2.2 s with
  | some ob, some p => (match fStore ob p r.1 with
    | some ob' => .nx (putV r.2.1 ob' s)
    | none => .no)
  | _, _ => .no
def tSetX : TSet := fun o i v H Q => rSetL o i v H Q ∨ rSetD o i v H Q
theorem set_x (hu : X.A.units + 1 < cLine) : PSet X tSetX := fun pins s σ H o i v ov iv u Q I ro ri rv h => h.elim (set_list pins s σ H o i v ov iv u Q I ro ri rv) (set_dict hu pins s σ H o i v ov iv u Q I ro ri rv)
theorem store_ok {al : List Addr} {F H : Hp} {o o' : Ob} {ho : HO} {p d : D} {a : Addr} {x v : V} (hs : Sub F H) (hH : H a = some ho) (q : ObR K al F o ho) (rp : Rdr K al F H p x) (dv : Dat K al F d v) (h : fStore o p d = some o') (Q : Hp → Prop) (hQ : ∀ ho', ObR K al F o' ho' → Q (upd H a ho')) : tSetX (.ref a) x v H Q := by
  unfold fStore at h
  split at h
  · rename_i xs i
    cases hj : ixN xs.length i with
    | none => rw [hj] at h; cases h
    | some j =>
      rw [hj] at h
      cases h
      cases ho <;> first | exact q.elim | skip
      rename_i vs
      have q : DatL K al F xs vs ∧ xs.length ≤ sizeLine := q
      cases rp.int
      refine .inl ⟨a, vs, i, j, rfl, rfl, hH, by rw [← q.1.length]; exact hj, hQ _ ⟨q.1.set dv, by rw [List.length_set]; exact q.2⟩⟩
  · rename_i kvs
    split at h
    · rename_i k hk
      split at h
      · rename_i hz
        cases h
        cases ho <;> first | exact q.elim | skip
        rename_i vs
        have q : DatK K al F kvs vs := q
        exact .inr ⟨a, _, rfl, .inl ⟨vs, k, hH, key_ok hk rp, by rw [← q.length]; exact hz, rfl⟩, hQ _ (q.put k dv)⟩
      · cases h
    · cases h
  · rename_i kvs ps
    split at h
    · rename_i k hk
      split at h
      · rename_i hz
        cases h
        cases ho <;> first | exact q.elim | skip
        rename_i vs
        have q : DatT K al F kvs vs := q
        obtain ⟨b, us, rfl, h1, l, _⟩ := rp.tup hs
        have e3 := keysOf_ok (H := H) hk l
        rw [e3] at h1
        exact .inr ⟨a, _, rfl, .inr ⟨vs, k, b, hH, rfl, h1, by rw [← q.length]; exact hz, rfl⟩, hQ _ (q.put k dv)⟩
      · cases h
    · cases h
  · cases h
theorem ss_store {o i e : Expr} {te to ti : TE} {ev eo ei : M Va} {pos pos' : Pos} (hu : X.A.units + 1 < cLine) (he : SE X K W e te ev) (ho : SE X K W o to eo) (hi : SE X K W i ti ei) (hs : swapsWithSole [.Subscript o i pos'] e pos.line X.env = pure false := by rfl) (hw : swappedStores [.Subscript o i pos'] e X.env = pure none := by rfl)
    (h1 : (assignEach [.Subscript o i pos'] X.env).map (·.2) = [assign (.Subscript o i pos') X.env] := by rfl)
    (ha : ∀ v, assign (.Subscript o i pos') X.env v = (do
      let ov ← holding [v] (eval o X.env)
      let iv ← holding [v, ov] (eval i X.env)
      standAt pos'
      holding [v, ov, iv] (setItem ov iv v)
      release [v, ov, iv] []) := by intro _; rfl) : SS X K W (.Assign [.Subscript o i pos'] e pos) (tAsg te (gSub to ti tSetX)) (svStore ev eo ei) := by
  obtain ⟨hK, pe, ge⟩ := he
  obtain ⟨_, po, go⟩ := ho
  obtain ⟨_, pi, gi⟩ := hi
  refine ⟨hK, ps_asg pe (pg_sub po pi (set_x hu) ha) hs hw h1, fun E F al H σ s En rel w => ?_⟩
  -- value, object, index, one behind another
  have q := Sat.bind2 (W := W) (R' := fun Hs al F H s (r : V × V × V) (x : D × Va × Va) => Dat K al F x.1 r.1 ∧ VaR K E (fun _ => none) al F H σ s r.2.1 x.2.1 ∧ VaR K E (fun _ => none) al F H σ s r.2.2 x.2.2) (u := fun v H1 (Q : V × V × V → Hp → Prop) => to σ H1 fun o H2 => ti σ H2 fun i H3 => Q (v, o, i) H3) (f := fun d => eo >>= fun o => ei >>= fun i => (pure (d, o, i) : M (D × Va × Va))) ((ge E F al H σ s rel).esc) fun d s1 wv F1 al1 H1 _ rel1 st1 dv => ?_
  · refine Sat.want (k := fun r s => match obV r.2.1 s, rd r.2.2 s with
      | some ob, some p => (match fStore ob p r.1 with
        | some ob' => .nx (VI.putV r.2.1 ob' s)
        | none => .no)
      | _, _ => .no) (u := fun r H3 => tSetX r.2.1 r.2.2 r.1 H3 fun H4 => En.nx σ H4) q w (fun r s1 ws F1 al1 H1 hm r1 gr hr w1 => ?_) fun _ _ _ _ _ h => h
    obtain ⟨d, o, i⟩ := r
    obtain ⟨wv, wo, wi⟩ := ws
    obtain ⟨dv, vo, vi⟩ := hr
    dsimp only at w1 dv vo vi ⊢
    cases hob : obV o s1 with
    | none => rw [hob] at w1; exact w1.elim
    | some ob =>
      cases hp : rd i s1 with
      | none => rw [hob, hp] at w1; exact w1.elim
      | some p =>
        rw [hob, hp] at w1
        dsimp only at w1
        cases hf : fStore ob p d with
        | none => rw [hf] at w1; exact w1.elim
        | some ob' =>
          rw [hf] at w1
          obtain ⟨a, ho, e, h1, h2, h3⟩ := r1.putV vo hob
          subst e
          refine store_ok r1.sub h1 h2 (rd_ok r1 vi hp) dv hf _ fun ho' q' => ?_
          obtain ⟨r2, s2⟩ := h3 ob' ho' q'
          exact w1 F1 al1 _ σ r2 s2.gr
  · have q2 := go E F1 al1 H1 σ s1 rel1
    rw [M.bind_run]
    cases ho : eo s1 with
    | no => exact True.intro
    | ex x s2 => rw [ho] at q2; exact fun Q hQ => q2 _ fun cls d F2 al2 H2 rel2 st2 x2 => hQ cls d F2 al2 H2 rel2 (st1.trans st2) x2
    | ok vo s2 =>
      rw [ho] at q2
      show Sat _ _ _ _ _ _ _ _ _ _ ((ei >>= fun i => (pure (d, vo, i) : M (D × Va × Va))) s2)
      rw [M.bind_run]
      cases hi2 : ei s2 with
      | no => exact True.intro
      | ex x s3 =>
        refine fun Q hQ => q2 _ fun wo F2 al2 H2 rel2 st2 v2 => ?_
        have q3 := gi E F2 al2 H2 σ s2 rel2
        rw [hi2] at q3
        exact q3 _ fun cls d F3 al3 H3 rel3 st3 x3 => hQ cls d F3 al3 H3 rel3 ((st1.trans st2).trans st3) x3
      | ok vi s3 =>
        refine fun Q hQ => q2 _ fun wo F2 al2 H2 rel2 st2 v2 => ?_
        have q3 := gi E F2 al2 H2 σ s2 rel2
        rw [hi2] at q3
        exact q3 _ fun wi F3 al3 H3 rel3 st3 v3 => hQ (wv, wo, wi) F3 al3 H3 rel3 ((st1.trans st2).trans st3) ⟨dv.mono (st2.trans st3).gr, VR.low (fun _ => none) _ _ _ _ _ _ _ (fun _ h => absurd rfl h) (v2.mono st3), VR.low (fun _ => none) _ _ _ _ _ _ _ (fun _ h => absurd rfl h) v3⟩

/-! ### methods that change -/
def MutS (K : PySem.W.Frag) (r : V → List V → Hp → VK → Prop) (f : Ob → List D → Option (Ob × D)) : Prop := ∀ (al : List Addr) (F H : Hp) (o o' : Ob) (ho : HO) (a : Addr) (ps : List D) (vs : List V) (x : D) (Q : VK), Sub F H → H a = some ho → ObR K al F o ho → DatL K al F ps vs → f o ps = some (o', x) →
  (∀ ho' w, ObR K al F o' ho' → Dat K al F x w → Q w (upd H a ho')) → r (.ref a) vs H Q
def evMut (isT : Ob → Bool) (f : Ob → List D → Option (Ob × D)) (m : M Va) (args : M (List D)) : M Va := m >>= fun v s0 => match obV v s0 with
  | some o0 => if isT o0 = true then (args >>= fun ds s => match obV v s with
    | some o => (match f o ds with
      | some (o', x) => .ok (.im x) (putV v o' s)
      | none => .no)
    | none => .no) s0 else .no
  | none => .no
theorem good_mut {T : String} {isT : Ob → Bool} {r : V → List V → Hp → VK → Prop} {f : Ob → List D → Option (Ob × D)} {to : TE} {ta : TA} {m : M Va} {args : M (List D)} (hT : ∀ (al : List Addr) (F H : Hp) (o : Ob) (ho : HO) (a : Addr), isT o = true → H a = some ho → ObR K al F o ho → tyV K T (.ref a) H) (hs : MutS K r f) (go : GoodE K W to m) (ga : GoodA K W ta args) : GoodE K W (tBM K T r to ta) (evMut isT f m args) := fun E F al H σ s rel => by
  refine Sat.bind (u := fun x H1 Q => tyV K T x H1 ∧ ta σ H1 fun xs H2 => r x xs H2 Q) VR.low (go E F al H σ s rel) fun va s1 w1 F1 al1 H1 _ rel1 st1 v1 => ?_
  cases ho : obV va s1 with
  | none => simp only [ho]; exact True.intro
  | some o0 =>
    simp only [ho]
    by_cases hi : isT o0 = true
    · rw [if_pos hi]
      obtain ⟨a, ho0, e, h1, h2, _⟩ := rel1.putV v1 ho
      subst e
      have ty : tyV K T (.ref a) H1 := hT al1 F1 H1 o0 ho0 a hi h1 h2
      have q := Sat.bind (u := fun xs H2 Q => r (.ref a) xs H2 Q) (VR.low (K := K) (E := E) (σ := σ)) (ga E F1 al1 H1 σ s1 rel1) (f := fun ds s => match obV va s with
        | some o => (match f o ds with
          | some (o', x) => .ok (.im x) (VI.putV va o' s)
          | none => .no)
        | none => .no) fun ds s2 ws F2 al2 H2 _ rel2 st2 v2 => ?_
      · exact q.imp fun Q h => ⟨ty, h⟩
      · cases ho2 : obV va s2 with
        | none => exact True.intro
        | some o =>
          dsimp only
          cases hf : f o ds with
          | none => exact True.intro
          | some z =>
            obtain ⟨o', x⟩ := z
            obtain ⟨b, ho2', e, g1, g2, g3⟩ := rel2.putV (v1.mono st2) ho2
            cases e
            refine fun Q hQ => hs al2 F2 H2 o o' ho2' a ds ws x Q rel2.sub g1 g2 v2 hf fun ho' w q' dx => ?_
            obtain ⟨r3, s3⟩ := g3 o' ho' q'
            exact hQ w F2 al2 _ r3 s3 dx
    · rw [if_neg hi]; exact True.intro
def isLst : Ob → Bool
  | .lst _ => true
  | _ => false
def isDk : Ob → Bool
  | .dk _ => true
  | .dt _ => true
  | _ => false
theorem ty_lst (al : List Addr) (F H : Hp) (o : Ob) (ho : HO) (a : Addr) (h : isLst o = true) (e : H a = some ho) (q : ObR K al F o ho) : tyV K "list" (.ref a) H := by
  cases o <;> first | cases h | skip
  cases ho <;> first | exact q.elim | skip
  exact .inl ⟨rfl, _, .of e⟩
def fAppend : Ob → List D → Option (Ob × D)
  | .lst xs, [y] => if xs.length < sizeLine then some (.lst (xs ++ [y]), .non) else none
  | _, _ => none
theorem mut_append : MutS K rAppend fAppend := fun al F H o o' ho a ps vs x Q hs hH q l h hQ => by
  unfold fAppend at h
  split at h
  · split at h
    · rename_i xs y hz
      cases h
      cases ho <;> first | exact q.elim | skip
      rename_i us
      have q : DatL K al F xs us ∧ xs.length ≤ sizeLine := q
      obtain _ | ⟨l1, l2⟩ := l
      cases l2
      exact ⟨a, us, _, rfl, rfl, hH, by rw [← q.1.length]; exact hz, hQ _ _ ⟨q.1.app (.cons l1 .nil), by rw [List.length_append]; exact hz⟩ .non⟩
    · cases h
  · cases h
theorem se_append {name : Str} {o e : Expr} {apos cpos : Pos} {to : TE} {ta : TA} {m : M Va} {args : M (List D)} (ho : SE X K W o to m) (ha : SA X K W [e] ta args) (hx : name = ("append" : Str) := by rfl)
    (hbase : attributeBase o "append" X.env (eval o X.env) = eval o X.env := by rfl)
    (hfew : ((backTo cpos (starEach [e] X.env)).all (fun x => !x.1) && (backToKw cpos (keywordEach [] X.env)).all (fun x => x.1.isSome)
      && decide ([e].length + ([] : List Keyword).length + (if ([] : List Keyword).isEmpty then 0 else 1) < 30)) = true := by rfl)
    (hline : (apos.endLine == cpos.line) = true := by rfl) (hs : starEach [e] X.env = [(false, eval e X.env)] := by rfl) : SE X K W (.Call (.Attribute o name apos) [e] [] cpos) (tBM K "list" rAppend to ta) (evMut isLst fAppend m args) := by
  subst hx
  obtain ⟨rfl, po, go⟩ := ho
  obtain ⟨_, pa, ga⟩ := ha
  exact ⟨rfl, pe_bm PySem.F.plainAttrs_list PySem.F.slot_list_append PySem.F.type_list_append mt_append po pa hbase hfew hline hs rfl, good_mut ty_lst mut_append go ga⟩

/-! ### methods of texts -/
def M0S (K : PySem.W.Frag) (r : V → List V → Hp → VK → Prop) (f : Str → Option Va) : Prop := ∀ (E : Ent) (F : Hp) (al : List Addr) (H : Hp) (σ : L2.St) (s : S) (a : Str) (va : Va), Rel K E F al H σ s → f a = some va →
  ∀ Q : VK, (∀ w F' al' H', Rel K E F' al' H' σ s → Stp σ s s F al H F' al' H' → VaR K E H al' F' H' σ s w va → Q w H') → r (.str a) [] H Q
def M1S (K : PySem.W.Frag) (r : V → List V → Hp → VK → Prop) (f : Str → D → Option Va) : Prop := ∀ (E : Ent) (F : Hp) (al : List Addr) (H : Hp) (σ : L2.St) (s : S) (a : Str) (y : V) (q : D) (va : Va), Rel K E F al H σ s → Rdr K al F H q y → f a q = some va →
  ∀ Q : VK, (∀ w F' al' H', Rel K E F' al' H' σ s → Stp σ s s F al H F' al' H' → VaR K E H al' F' H' σ s w va → Q w H') → r (.str a) [y] H Q
def ev0 (f : Str → Option Va) (m : M Va) : M Va := m >>= fun v s => match v with
  | .im (.str a) => (match f a with
    | some v => .ok v s
    | none => .no)
  | _ => .no
def ev1 (f : Str → D → Option Va) (m n : M Va) : M Va := m >>= fun v s => match v with
  | .im (.str a) => (n >>= fun y s => match rd y s with
    | some q => (match f a q with
      | some v => .ok v s
      | none => .no)
    | none => .no) s
  | _ => .no
theorem good_m0 {r : V → List V → Hp → VK → Prop} {f : Str → Option Va} {to : TE} {m : M Va} (hs : M0S K r f) (go : GoodE K W to m) : GoodE K W (tM0 r to) (ev0 f m) := fun E F al H σ s rel => by
  refine Sat.bind (u := fun x H1 Q => (∃ a, x = .str a) ∧ r x [] H1 Q) VR.low (go E F al H σ s rel) fun va s1 w1 F1 al1 H1 _ rel1 st1 v1 => ?_
  cases va with
  | im d =>
    cases d with
    | str a =>
      cases (show Dat K al1 F1 (.str a) w1 from v1)
      dsimp only
      cases hf : f a with
      | none => exact True.intro
      | some v => exact fun Q hQ => ⟨⟨a, rfl⟩, hs E F1 al1 H1 σ s1 a v rel1 hf Q hQ⟩
    | _ => exact True.intro
  | _ => exact True.intro
theorem good_m1 {r : V → List V → Hp → VK → Prop} {f : Str → D → Option Va} {to te : TE} {m n : M Va} (hs : M1S K r f) (go : GoodE K W to m) (ge : GoodE K W te n) : GoodE K W (tM1 r to te) (ev1 f m n) := fun E F al H σ s rel => by
  refine Sat.bind (u := fun x H1 Q => (∃ a, x = .str a) ∧ te σ H1 fun y H2 => r x [y] H2 Q) VR.low (go E F al H σ s rel) fun va s1 w1 F1 al1 H1 _ rel1 st1 v1 => ?_
  cases va with
  | im d =>
    cases d with
    | str a =>
      cases (show Dat K al1 F1 (.str a) w1 from v1)
      dsimp only
      have q := Sat.bind (u := fun y H2 Q => r (.str a) [y] H2 Q) (VR.low (K := K) (E := E) (σ := σ)) (ge E F1 al1 H1 σ s1 rel1) (f := fun y s => match rd y s with
        | some q => (match f a q with
          | some v => .ok v s
          | none => .no)
        | none => .no) fun y s2 w2 F2 al2 H2 _ rel2 st2 v2 => ?_
      · exact q.imp fun Q h => ⟨⟨a, rfl⟩, h⟩
      · cases hr : rd y s2 with
        | none => exact True.intro
        | some q =>
          dsimp only
          cases hf : f a q with
          | none => exact True.intro
          | some v => exact fun Q hQ => hs E F2 al2 H2 σ s2 a w2 q v rel2 (rd_ok rel2 v2 hr) hf Q hQ
    | _ => exact True.intro
  | _ => exact True.intro
def fSplit (a : Str) : D → Option Va
  | .str b => if (b.length == 0) = false ∧ a.length + 2 ≤ sizeLine then some (.fr (.lst ((Txt.split a b).map .str))) else none
  | _ => none
theorem strs_dat {al : List Addr} {F : Hp} : ∀ zs : List Str, DatL K al F (zs.map .str) (zs.map .str)
  | [] => .nil
  | z :: zs => .cons (.str z) (strs_dat zs)
abbrev rSplit1 : V → List V → Hp → VK → Prop := fun x xs H Q => ∃ a b, x = .str a ∧ xs = [.str b] ∧ (b.length == 0) = false ∧ a.length + 2 ≤ sizeLine ∧ rNewStrs (Txt.split a b) H Q
theorem m1s_split : M1S K rSplit1 fSplit := fun E F al H σ s a y q va rel rq e Q hQ => by
  unfold fSplit at e
  split at e
  · split at e
    · rename_i b hz
      cases e
      cases rq.str
      refine ⟨a, b, rfl, rfl, hz.1, hz.2, fun p hp => fin_l rel (strs_dat _) ?_ hQ p hp⟩
      rw [List.length_map]
      exact Nat.le_trans (PyProof.Rows.split_le a b) hz.2
    · cases e
  · cases e
theorem se_split {name : Str} {o e : Expr} {apos pos : Pos} {to te : TE} {m n : M Va} (ho : SE X K W o to m) (he : SE X K W e te n) (hx : name = ("split" : Str) := by rfl) (hs : starEach [e] X.env = [(false, eval e X.env)] := by rfl) (hbase : attributeBase o "split" X.env (eval o X.env) = eval o X.env := by rfl) (hline : (apos.endLine == pos.line) = true := by rfl) :
    SE X K W (.Call (.Attribute o name apos) [e] [] pos) (tM1 rSplit1 to te) (ev1 fSplit m n) := by
  subst hx
  obtain ⟨rfl, po, go⟩ := ho
  obtain ⟨_, pe, ge⟩ := he
  exact ⟨rfl, pe_m1 PySem.F.slot_str_split PySem.F.type_str_split mt_split po pe hs hbase hline, good_m1 m1s_split go ge⟩
def strsOf : List D → Option (List Str)
  | [] => some []
  | .str z :: ds => (strsOf ds).map fun zs => z :: zs
  | _ => none
theorem strsOf_eq : ∀ {ds : List D} {zs : List Str}, strsOf ds = some zs → ds = zs.map .str
  | [], _, h => by cases h; rfl
  | .str z :: ds, _, h => by
    unfold strsOf at h
    cases hq : strsOf ds with
    | none => rw [hq] at h; cases h
    | some zs => rw [hq] at h; cases h; rw [strsOf_eq hq]; rfl
  | .non :: _, _, h => by cases h
  | .bl _ :: _, _, h => by cases h
  | .int _ :: _, _, h => by cases h
  | .ty _ :: _, _, h => by cases h
  | .lst _ :: _, _, h => by cases h
  | .tup _ :: _, _, h => by cases h
  | .lz _ :: _, _, h => by cases h
  | .tz _ :: _, _, h => by cases h
  | .dk _ :: _, _, h => by cases h
  | .dt _ :: _, _, h => by cases h
  | .ins _ _ :: _, _, h => by cases h
  | .ref _ :: _, _, h => by cases h
  | .fn _ :: _, _, h => by cases h
theorem strs_vs {al : List Addr} {F : Hp} : ∀ {zs : List Str} {vs : List V}, DatL K al F (zs.map .str) vs → vs = zs.map .str
  | [], _, .nil => rfl
  | z :: zs, _, .cons h t => by cases h; rw [strs_vs t]; rfl
def fJoin (a : Str) (p : D) : Option Va := match seqOf p with
  | some ds => (match strsOf ds with
    | some zs => if (zs.map (·.length)).sum + zs.length * a.length ≤ 16777216 then some (.im (.str (Txt.join a zs))) else none
    | none => none)
  | none => none
abbrev rJoin1 (K : PySem.W.Frag) : V → List V → Hp → VK → Prop := fun x xs H Q => ∃ a p, ∃ ys : List Str, x = .str a ∧ xs = [.ref p] ∧ (SqL K H p (ys.map V.str) ∨ SqT K H p (ys.map V.str)) ∧
    (ys.map (·.length)).sum + ys.length * a.length ≤ 16777216 ∧ Q (.str (Txt.join a ys)) H
theorem m1s_join : M1S K (rJoin1 K) fJoin := fun E F al H σ s a y q va rel rq e Q hQ => by
  unfold fJoin at e
  split at e
  · rename_i ds hds
    split at e
    · rename_i zs hz
      split at e
      · rename_i hb
        cases e
        obtain ⟨p, vs, rfl, h1, l, _⟩ := seqOf_ok rel.sub rq hds
        have e1 := strsOf_eq hz
        subst e1
        have e2 := strs_vs l
        subst e2
        exact ⟨a, p, zs, rfl, rfl, h1.symm, hb, fin_d rel (.str _) hQ⟩
      · cases e
    · cases e
  · cases e
theorem se_join {name : Str} {o e : Expr} {apos pos : Pos} {to te : TE} {m n : M Va} (ho : SE X K W o to m) (he : SE X K W e te n) (hx : name = ("join" : Str) := by rfl) (hs : starEach [e] X.env = [(false, eval e X.env)] := by rfl) (hbase : attributeBase o "join" X.env (eval o X.env) = eval o X.env := by rfl) (hline : (apos.endLine == pos.line) = true := by rfl) :
    SE X K W (.Call (.Attribute o name apos) [e] [] pos) (tM1 (rJoin1 K) to te) (ev1 fJoin m n) := by
  subst hx
  obtain ⟨rfl, po, go⟩ := ho
  obtain ⟨_, pe, ge⟩ := he
  exact ⟨rfl, pe_m1 PySem.F.slot_str_join PySem.F.type_str_join mt_join po pe hs hbase hline, good_m1 m1s_join go ge⟩
end
end VI
end
section
set_option Elab.async false
set_option linter.all false
set_option maxRecDepth 100000
set_option maxHeartbeats 2000000
/-! V15: a, b = x, y; what a law's defs stand on; the law's end. -/
namespace VI
open PySem PySem.Spec L2

def svPar (i j : Nat) (m : M (List D)) : Sx := svLet m fun ds s => match ds with
  | [a, b] => .nx (setIm j b (setIm i a s))
  | _ => .no
def svAsg (gv : Gv) (ev : M Va) : Sx := svLet (ev >>= esc) fun d s => match gv d s with
  | some s' => .nx s'
  | none => .no
section
variable {X : Cx} {W : Wx} {K : PySem.W.Frag}
theorem ss_par (i j : Nat) {x y : Str} {a b : Expr} {ta : TA} {m : M (List D)} {px py pt pos : Pos} {kt k2 pt2} (ha : SA X K W [a, b] ta m) (hN : X.N.Nodup) (hi : X.N[i]? = some x := by rfl) (hj : X.N[j]? = some y := by rfl) (hij : i ≠ j := by decide)
    (hx : X.env.scope.names.lookup x = some .local := by rfl) (hy : X.env.scope.names.lookup y = some .local := by rfl) (hc : X.calm = true := by rfl)
    (hw : swappedStores [.Tuple [.Name x px, .Name y py] kt pt] (.Tuple [a, b] k2 pt2) X.env = pure (some [x, y]) := by rfl)
    (hs : swapsWithSole [.Tuple [.Name x px, .Name y py] kt pt] (.Tuple [a, b] k2 pt2) pos.line X.env = pure false := by rfl) : SS X K W (.Assign [.Tuple [.Name x px, .Name y py] kt pt] (.Tuple [a, b] k2 pt2) pos) (tPar i j ta) (svPar i j m) := by
  obtain ⟨hK, p, g⟩ := ha
  refine ⟨hK, ps_par hc hN hi hj hij hx hy p hw hs, fun E F al H σ s En rel w => ?_⟩
  refine (g E F al H σ s rel).want (u := fun vs H1 => ∃ v w, vs = [v, w] ∧ En.nx ((σ.set i (some v)).set j (some w)) H1) w (fun ds s1 vs F1 al1 H1 hm r gr q w1 => ?_) fun _ _ _ _ _ h => h
  have q : DatL K al1 F1 ds vs := q
  split at w1
  · obtain _ | ⟨q1, q2⟩ := q
    obtain _ | ⟨q2, q3⟩ := q2
    cases q3
    exact ⟨_, _, rfl, w1 F1 al1 H1 _ ((r.setIm i q1).setIm j q2) .refl⟩
  · exact w1.elim
/-- (a, b) = .. by a tuple that is there -/
theorem ss_asg {is : List Nat} {tg e : Expr} {te : TE} {ev : M Va} {g : TG} {gv : Gv} {pos : Pos} (he : SE X K W e te ev) (hg : SG X K is tg g gv) (hs : swapsWithSole [tg] e pos.line X.env = pure false := by rfl) (hw : swappedStores [tg] e X.env = pure none := by rfl)
    (h1 : (assignEach [tg] X.env).map (·.2) = [assign tg X.env] := by rfl) : SS X K W (.Assign [tg] e pos) (tAsg te g) (svAsg gv ev) := by
  obtain ⟨hK, p, ge⟩ := he
  obtain ⟨_, pg, gg⟩ := hg
  refine ⟨hK, ps_asg p pg hs hw h1, fun E F al H σ s En rel w => ?_⟩
  refine (ge E F al H σ s rel).esc.want w (fun d s1 v F1 al1 H1 hm r gr q w1 => ?_) fun _ _ _ _ _ h => h
  cases hd : gv d s1 with
  | none => rw [hd] at w1; exact w1.elim
  | some s' =>
    rw [hd] at w1
    exact gg E F1 al1 H1 σ s1 s' d v _ r q hd fun σ' r' _ _ _ _ => w1 F1 al1 H1 σ' r' .refl
end

/-! ### the order of keywords -/
def perm {α : Type} (is : List Nat) (l : List α) : List α := is.filterMap fun i => l[i]?
theorem vals_get {vs : List V} {us : List Value} (h : Vals vs us) (i : Nat) : (∃ v u, vs[i]? = some v ∧ us[i]? = some u ∧ RelV v u) ∨ (vs[i]? = none ∧ us[i]? = none) := by
  by_cases hi : i < vs.length
  · obtain ⟨u, hu, ru⟩ := h.get (List.getElem?_eq_getElem hi)
    exact .inl ⟨_, u, List.getElem?_eq_getElem hi, hu, ru⟩
  · have e := h.length
    exact .inr ⟨List.getElem?_eq_none (by omega), List.getElem?_eq_none (by omega)⟩
theorem perm_vals {vs : List V} {us : List Value} (h : Vals vs us) : ∀ is : List Nat, Vals (perm is vs) (perm is us)
  | [] => .nil
  | i :: is => by
    unfold perm
    rcases vals_get h i with ⟨v, u, e1, e2, r⟩ | ⟨e1, e2⟩
    · rw [List.filterMap_cons_some e1, List.filterMap_cons_some e2]; exact .cons r (perm_vals h is)
    · rw [List.filterMap_cons_none e1, List.filterMap_cons_none e2]; exact perm_vals h is
theorem perm_dat {K : PySem.W.Frag} {al : List Addr} {F : Hp} {ds : List D} {vs : List V} (h : DatL K al F ds vs) : ∀ is : List Nat, DatL K al F (perm is ds) (perm is vs)
  | [] => .nil
  | i :: is => by
    unfold perm
    by_cases hi : i < ds.length
    · obtain ⟨v, e2, r⟩ := h.getD (i := i) (List.getElem?_eq_getElem hi)
      rw [List.filterMap_cons_some (List.getElem?_eq_getElem hi), List.filterMap_cons_some e2]
      exact .cons r (perm_dat h is)
    · have e := h.length
      rw [List.filterMap_cons_none (List.getElem?_eq_none (by omega)), List.filterMap_cons_none (List.getElem?_eq_none (by omega))]
      exact perm_dat h is

/-! ### what a law's defs stand on -/
def bnames : List Str := ["isinstance", "len", "int", "str", "list", "tuple", "dict", "bool", "range", "enumerate", "zip", "max", "min", "sorted", "sum", "any", "all", "repr", "type", "set", "reversed", "abs", "iter", "next", "hash"]
structure EnvV (K : PySem.W.Frag) (mg : Str → Option Value) (fn : List He.DefD) (gs : List Str) : Prop where
  free : ∀ x ∈ bnames, mg x = none
  glob : ∀ x ∈ gs, mg x = some (.ref (He.ga K x))
  defs : ∀ (i : Nat) (d : He.DefD), fn[i]? = some d → ∃ fd, FunD K d.name d.qual d.params d.body d.scope (d.dvs K) (d.kws K) (He.fAd K d.at_) fd
def faOf (gs : List Str) : List He.Fa := gs.map .glo ++ bnames.map .free
theorem EnvV.of {K : PySem.W.Frag} {h : Heap} {mg : Str → Option Value} {fn : List He.DefD} {gs : List Str} {more : List He.Fa} (X : K.In h) (G : h.Ns mainGlobals mg) (c : He.SaysD (faOf gs ++ more) fn K) : EnvV K mg fn gs := by
  have c1 := (He.ba (show (((faOf gs ++ more).all fun f => f.ok K) && fn.all fun d => d.ok K) = true from congrArg (fun z : He.AlD => z.1) c)).1
  have c2 := List.all_eq_true.mp c1
  refine ⟨fun x hx => He.free_ok X G (c2 _ (List.mem_append_left _ (List.mem_append_right _ (List.mem_map.mpr ⟨x, hx, rfl⟩)))), fun x hx => He.glo_ok X G (c2 _ (List.mem_append_left _ (List.mem_append_left _ (List.mem_map.mpr ⟨x, hx, rfl⟩)))), fun i d hd => c.def_ i hd⟩
theorem room1 {k : Nat} {A : Around} (r : Room k A) : A.units + 1 < cLine := by have := r.un; omega
section
variable {P : Program} {w : World} {K : PySem.W.Frag} {mg : Str → Option Value} {base : Heap} {j k : Nat} {x : Str} {des : List D} {f : Fs}
theorem FnP.mono (h : FnP P w K mg base j x des f) (hk : j ≤ k) : FnP P w K mg base k x des f := by
  obtain ⟨a, fd, ps, ds, h1, h2⟩ := h
  exact ⟨a, fd, ps, ds, h1.mono hk, h2⟩
theorem FnK.mono {n : Nat} {ks : List Str} {g : {α : Type} → List α → List α → List α → List α} (h : FnK P w K mg base j x n ks g des f) (hk : j ≤ k) : FnK P w K mg base k x n ks g des f := by
  obtain ⟨a, fd, ps, ds, h1, h2⟩ := h
  exact ⟨a, fd, ps, ds, h1.mono hk, h2⟩
/-- the law's def, as the end asks -/
def spLaw (K : PySem.W.Frag) (n : Nat) : Sp := fun vs H Q _ => ∃ (a : Addr) (ns : List Int), vs = [.ref a] ∧ ns.length ≤ n ∧ SqL K H a (ns.map V.int) ∧ ∀ H', Q (.bl true) H'
theorem ints_dat {al : List Addr} {F : Hp} : ∀ ns : List Int, DatL K al F (ns.map .int) (ns.map .int)
  | [] => .nil
  | n :: ns => .cons (.int n) (ints_dat ns)
theorem law_ok {a : Addr} {fd : FuncData} {ps : List Str} {n : Nat} (F : FnOk P w K mg base (CV P w) k a fd ps (spOf K f)) (hn : n ≤ sizeLine) (h : ∀ ns : List Int, ns.length ≤ n → ∃ st, f [.lz (ns.map .int)] [] = .ok (.im (.bl true)) st) : FnOk P w K mg base (CV P w) k a fd ps (spLaw K n) :=
  F.imp fun vs H Q E ⟨b, ns, e, hl, hS, hQ⟩ => by
    subst e
    obtain ⟨st, hf⟩ := h ns hl
    refine ⟨H, [], [], [.lz (ns.map .int)], ⟨fun _ _ h => .inl h, rfl, fun i a o h => by simp at h, List.nodup_nil⟩, .cons (.lz hS (ints_dat ns) (by rw [List.length_map]; omega)) .nil, ?_⟩
    rw [hf]
    intro w F' al' H' _ _ vf
    cases (show Dat K al' F' (.bl true) w from vf)
    exact hQ H'
end
section
variable {K : PySem.W.Frag} {mg : Str → Option Value} {fn : List He.DefD} {gs : List Str} (e : EnvV K mg fn gs)
include e
theorem EnvV.f_isinstance : mg "isinstance" = none := e.free _ (List.mem_of_getElem? (i := 0) rfl)
theorem EnvV.f_len : mg "len" = none := e.free _ (List.mem_of_getElem? (i := 1) rfl)
theorem EnvV.f_int : mg "int" = none := e.free _ (List.mem_of_getElem? (i := 2) rfl)
theorem EnvV.f_str : mg "str" = none := e.free _ (List.mem_of_getElem? (i := 3) rfl)
theorem EnvV.f_list : mg "list" = none := e.free _ (List.mem_of_getElem? (i := 4) rfl)
theorem EnvV.f_tuple : mg "tuple" = none := e.free _ (List.mem_of_getElem? (i := 5) rfl)
theorem EnvV.f_dict : mg "dict" = none := e.free _ (List.mem_of_getElem? (i := 6) rfl)
theorem EnvV.f_bool : mg "bool" = none := e.free _ (List.mem_of_getElem? (i := 7) rfl)
theorem EnvV.f_range : mg "range" = none := e.free _ (List.mem_of_getElem? (i := 8) rfl)
theorem EnvV.f_enumerate : mg "enumerate" = none := e.free _ (List.mem_of_getElem? (i := 9) rfl)
theorem EnvV.f_zip : mg "zip" = none := e.free _ (List.mem_of_getElem? (i := 10) rfl)
theorem EnvV.f_max : mg "max" = none := e.free _ (List.mem_of_getElem? (i := 11) rfl)
theorem EnvV.f_min : mg "min" = none := e.free _ (List.mem_of_getElem? (i := 12) rfl)
theorem EnvV.f_sorted : mg "sorted" = none := e.free _ (List.mem_of_getElem? (i := 13) rfl)
theorem EnvV.f_sum : mg "sum" = none := e.free _ (List.mem_of_getElem? (i := 14) rfl)
theorem EnvV.f_any : mg "any" = none := e.free _ (List.mem_of_getElem? (i := 15) rfl)
theorem EnvV.f_all : mg "all" = none := e.free _ (List.mem_of_getElem? (i := 16) rfl)
theorem EnvV.f_repr : mg "repr" = none := e.free _ (List.mem_of_getElem? (i := 17) rfl)
theorem EnvV.f_type : mg "type" = none := e.free _ (List.mem_of_getElem? (i := 18) rfl)
theorem EnvV.f_set : mg "set" = none := e.free _ (List.mem_of_getElem? (i := 19) rfl)
theorem EnvV.f_reversed : mg "reversed" = none := e.free _ (List.mem_of_getElem? (i := 20) rfl)
theorem EnvV.f_abs : mg "abs" = none := e.free _ (List.mem_of_getElem? (i := 21) rfl)
theorem EnvV.f_iter : mg "iter" = none := e.free _ (List.mem_of_getElem? (i := 22) rfl)
theorem EnvV.f_next : mg "next" = none := e.free _ (List.mem_of_getElem? (i := 23) rfl)
theorem EnvV.f_hash : mg "hash" = none := e.free _ (List.mem_of_getElem? (i := 24) rfl)
theorem EnvV.at_ (i : Nat) {x : Str} (h : gs[i]? = some x := by rfl) : mg x = some (.ref (He.ga K x)) := e.glob x (List.mem_of_getElem? h)
end
/-- of one world or another -/
def CW (P : Program) : CXT := fun outer H s E e s' => ∃ w, CV P w outer H s E e s'
theorem cw_ok {P : Program} {w : World} {K : PySem.W.Frag} {mg : Str → Option Value} {base : Heap} {k : Nat} {f : Addr} {fd : FuncData} {ps : List Str} {sp : Sp} (F : FnOk P w K mg base (CV P w) k f fd ps sp) : FnOk P w K mg base (CW P) k f fd ps sp :=
  ⟨F.len, fun A outer s H args us vs Q E hr he hb hv hs => PySem.codeAny_mono (F.run A outer s H args us vs Q E hr he hb hv hs) fun r s' h => by
    cases r with
    | ok fl => cases fl <;> exact h
    | error e => exact ⟨w, h⟩⟩
theorem cw_no {P : Program} (H : Hp) (s : Shared) (e : Value) (s' : Shared) (h : CW P [] H s (fun _ _ _ => False) e s') : False := by
  obtain ⟨_, _, _, _, _, _, _, _, _, _, _, _, _, z⟩ := h
  exact z
end VI
end
section
set_option Elab.async false
set_option linter.all false
set_option maxRecDepth 100000
set_option maxHeartbeats 2000000
/-! V16: what is to be shown of an evaluator, step by step (no program in sight). -/
namespace VI
open PySem

def OW {α : Type} (o : Option α) (Q : α → Prop) : Prop := match o with
  | some a => Q a
  | none => False
@[simp] theorem ow_some {α : Type} (a : α) (Q : α → Prop) : OW (some a) Q = Q a := rfl
@[simp] theorem ow_none {α : Type} (Q : α → Prop) : OW (none : Option α) Q = False := rfl
@[simp] theorem ow_ite {α : Type} (c : Prop) [Decidable c] (a : Option α) (Q : α → Prop) : OW (if c then a else none) Q = (c ∧ OW a Q) := by
  by_cases h : c <;> simp [h]
@[simp] theorem ow_map {α β : Type} (f : α → β) (o : Option α) (Q : β → Prop) : OW (o.map f) Q = OW o fun a => Q (f a) := by cases o <;> rfl
@[simp] theorem ow_bind {α β : Type} (f : α → Option β) (o : Option α) (Q : β → Prop) : OW (o.bind f) Q = OW o fun a => OW (f a) Q := by cases o <;> rfl
theorem ow_of {α : Type} {o : Option α} {a : α} {Q : α → Prop} (h : o = some a) (q : Q a) : OW o Q := by rw [h]; exact q
def Wp {α : Type} (m : M α) (s : S) (Q : α → S → Prop) (X : Xc → S → Prop) : Prop := match m s with
  | .ok a s' => Q a s'
  | .ex x s' => X x s'
  | .no => False
section
variable {α β : Type} {s : S} {X : Xc → S → Prop}
@[simp] theorem wp_bind (m : M α) (f : α → M β) (Q : β → S → Prop) : Wp (m >>= f) s Q X = Wp m s (fun a s' => Wp (f a) s' Q X) X := by
  unfold Wp
  try dsimp only
  rw [M.bind_run]
  cases m s <;> rfl
@[simp] theorem wp_pure (a : α) (Q : α → S → Prop) : Wp (pure a : M α) s Q X = Q a s := rfl
theorem Wp.mono {m : M α} {Q Q' : α → S → Prop} {X' : Xc → S → Prop} (h : Wp m s Q X) (hq : ∀ a s', Q a s' → Q' a s') (hx : ∀ x s', X x s' → X' x s') : Wp m s Q' X' := by
  unfold Wp at h ⊢
  cases hm : m s with
  | ok a s' => rw [hm] at h; exact hq _ _ h
  | ex x s' => rw [hm] at h; exact hx _ _ h
  | no => rw [hm] at h; exact h
theorem wp_same {m m' : M α} {Q : α → S → Prop} {s s' : S} (h : m s = m' s') : Wp m s Q X = Wp m' s' Q X := by unfold Wp; rw [h]
theorem wp_fun (m : S → Rs α) (Q : α → S → Prop) : Wp (fun s => m s : M α) s Q X = Wp m s Q X := rfl
theorem wp_of_ok {m : M α} {a : α} {s' : S} {Q : α → S → Prop} (h : m s = .ok a s') (q : Q a s') : Wp m s Q X := by unfold Wp; rw [h]; exact q
variable {Q : Va → S → Prop} {a b c m n : M Va}
/-- what slot i has -/
def getV (i : Nat) (s : S) : Option Va := match s.env[i]? with
  | some (.im d) => some (.im d)
  | some (.ow _ _) => some (.pl i)
  | _ => none
@[simp] theorem wp_var (i : Nat) : Wp (evVar i) s Q X = OW (getV i s) fun v => Q v s := by
  unfold Wp evVar getV
  try dsimp only
  cases s.env[i]? with
  | none => rfl
  | some sl => cases sl <;> rfl
@[simp] theorem wp_c (d : D) : Wp (evC d) s Q X = Q (.im d) s := rfl
@[simp] theorem wp_pick {γ : Type} (f : α → Option γ) (x : α) {R : γ → S → Prop} : Wp (pick f x) s R X = OW (f x) fun y => R y s := by
  unfold Wp pick
  try dsimp only
  cases f x <;> rfl
@[simp] theorem wp_op (f : D → D → Option Va) : Wp (evOp f a b) s Q X = Wp a s (fun x s1 => Wp b s1 (fun y s2 => OW (rd x s2) fun p => OW (rd y s2) fun q => OW (f p q) fun v => Q v s2) X) X := by
  unfold evOp
  refine (wp_bind _ _ _).trans (congrArg (fun z => Wp a s z X) (funext fun x => funext fun s1 => ?_))
  refine (wp_bind _ _ _).trans (congrArg (fun z => Wp b s1 z X) (funext fun y => funext fun s2 => ?_))
  unfold Wp
  try dsimp only
  cases hx : rd x s2 with
  | none => rfl
  | some p =>
    cases hy : rd y s2 with
    | none => rfl
    | some q =>
      simp only [ow_some]
      cases f p q <;> rfl
@[simp] theorem wp_opF (f : D → D → Option Va) (x y : Va) : Wp (opF f x y) s Q X = OW (rd x s) fun p => OW (rd y s) fun q => OW (f p q) fun v => Q v s := by
  unfold Wp opF
  try dsimp only
  cases hx : rd x s with
  | none => rfl
  | some p =>
    cases hy : rd y s with
    | none => rfl
    | some q =>
      simp only [ow_some]
      cases f p q <;> rfl
def blV : Va → Option Bool
  | .im (.bl b) => some b
  | _ => none
@[simp] theorem blV_bl (b : Bool) : blV (.im (.bl b)) = some b := rfl
@[simp] theorem wp_B {R : Bool → S → Prop} : Wp (evB m) s R X = Wp m s (fun v s1 => OW (blV v) fun b => R b s1) X := by
  unfold evB
  refine (wp_bind _ _ _).trans (congrArg (fun z => Wp m s z X) (funext fun x => funext fun s1 => ?_))
  cases x with
  | im d => cases d <;> rfl
  | _ => rfl
@[simp] theorem wp_tru (v : Va) {R : Bool → S → Prop} : Wp (truOf v) s R X = OW (rd v s) fun p => OW (tru p) fun b => R b s := by
  unfold Wp truOf
  try dsimp only
  cases rd v s with
  | none => rfl
  | some p => simp only [Option.bind_some, ow_some]; cases tru p <;> rfl
@[simp] theorem wp_T {R : Bool → S → Prop} : Wp (evT m) s R X = Wp m s (fun v s1 => OW (rd v s1) fun p => OW (tru p) fun b => R b s1) X := by
  unfold evT
  simp
@[simp] theorem wp_mNot (m : M Bool) {R : Bool → S → Prop} : Wp (mNot m) s R X = Wp m s (fun b s1 => R (!b) s1) X := by unfold mNot; simp
@[simp] theorem wp_mAnd (m n : M Bool) {R : Bool → S → Prop} : Wp (mAnd m n) s R X = Wp m s (fun b s1 => if b = true then Wp n s1 R X else R false s1) X := by
  unfold mAnd
  refine (wp_bind _ _ _).trans (congrArg (fun z => Wp m s z X) (funext fun x => funext fun s1 => ?_))
  cases x <;> rfl
@[simp] theorem wp_mOr (m n : M Bool) {R : Bool → S → Prop} : Wp (mOr m n) s R X = Wp m s (fun b s1 => if b = true then R true s1 else Wp n s1 R X) X := by
  unfold mOr
  refine (wp_bind _ _ _).trans (congrArg (fun z => Wp m s z X) (funext fun x => funext fun s1 => ?_))
  cases x <;> rfl
@[simp] theorem wp_not : Wp (evNot m) s Q X = Wp m s (fun v s1 => OW (rd v s1) fun p => OW (tru p) fun b => Q (.im (.bl (!b))) s1) X := by unfold evNot; simp
@[simp] theorem wp_and : Wp (evAnd a b) s Q X = Wp a s (fun v s1 => OW (rd v s1) fun p => OW (tru p) fun k => if k = true then Wp b s1 Q X else Q v s1) X := by
  unfold evAnd
  refine (wp_bind _ _ _).trans (congrArg (fun z => Wp a s z X) (funext fun x => funext fun s1 => ?_))
  refine (wp_bind _ _ _).trans ((wp_tru _).trans ?_)
  refine congrArg (OW (rd x s1)) (funext fun p => congrArg (OW (tru p)) (funext fun k => ?_))
  cases k <;> rfl
@[simp] theorem wp_or : Wp (evOr a b) s Q X = Wp a s (fun v s1 => OW (rd v s1) fun p => OW (tru p) fun k => if k = true then Q v s1 else Wp b s1 Q X) X := by
  unfold evOr
  refine (wp_bind _ _ _).trans (congrArg (fun z => Wp a s z X) (funext fun x => funext fun s1 => ?_))
  refine (wp_bind _ _ _).trans ((wp_tru _).trans ?_)
  refine congrArg (OW (rd x s1)) (funext fun p => congrArg (OW (tru p)) (funext fun k => ?_))
  cases k <;> rfl
@[simp] theorem wp_if (c : M Bool) : Wp (evIf c a b) s Q X = Wp c s (fun k s1 => if k = true then Wp a s1 Q X else Wp b s1 Q X) X := by
  unfold evIf
  refine (wp_bind _ _ _).trans (congrArg (fun z => Wp c s z X) (funext fun x => funext fun s1 => ?_))
  cases x <;> rfl
def inV : Va → Option Int
  | .im (.int i) => some i
  | _ => none
@[simp] theorem inV_int (i : Int) : inV (.im (.int i)) = some i := rfl
@[simp] theorem wp_neg : Wp (evNeg m) s Q X = Wp m s (fun v s1 => OW (inV v) fun i => Q (.im (.int (-i))) s1) X := by
  unfold evNeg
  refine (wp_bind _ _ _).trans (congrArg (fun z => Wp m s z X) (funext fun x => funext fun s1 => ?_))
  cases x with
  | im d => cases d <;> rfl
  | _ => rfl
@[simp] theorem wp_chain (f g : D → D → Option Va) : Wp (evChain f g a b c) s Q X = Wp a s (fun x s1 => Wp b s1 (fun y s2 => OW (rd x s2) fun p => OW (rd y s2) fun q => OW (f p q) fun z => OW (blV z) fun k =>
    if k = true then Wp c s2 (fun w s3 => OW (rd y s3) fun p => OW (rd w s3) fun q => OW (g p q) fun v => Q v s3) X else Q (.im (.bl false)) s2) X) X := by
  unfold evChain
  refine (wp_bind _ _ _).trans (congrArg (fun z => Wp a s z X) (funext fun x => funext fun s1 => ?_))
  refine (wp_bind _ _ _).trans (congrArg (fun z => Wp b s1 z X) (funext fun y => funext fun s2 => ?_))
  refine (wp_bind _ _ _).trans ((wp_opF _ _ _).trans ?_)
  refine congrArg (OW (rd x s2)) (funext fun p => congrArg (OW (rd y s2)) (funext fun q => congrArg (OW (f p q)) (funext fun z => ?_)))
  cases z with
  | im d =>
    cases d with
    | bl k => cases k <;> simp
    | _ => rfl
  | _ => rfl
@[simp] theorem wp_nil {R : List D → S → Prop} : Wp evNil s R X = R [] s := rfl
@[simp] theorem wp_cons (r : M (List D)) {R : List D → S → Prop} : Wp (evCons m r) s R X = Wp m s (fun v s1 => Wp (esc v) s1 (fun d s2 => Wp r s2 (fun ds s3 => R (d :: ds) s3) X) X) X := by unfold evCons; simp
@[simp] theorem wp_nilV {R : List Va → S → Prop} : Wp evNilV s R X = R [] s := rfl
@[simp] theorem wp_consV (r : M (List Va)) {R : List Va → S → Prop} : Wp (evConsV m r) s R X = Wp m s (fun v s1 => Wp r s1 (fun vs s2 => R (v :: vs) s2) X) X := by unfold evConsV; simp
@[simp] theorem wp_star (r : M (List D)) {R : List D → S → Prop} : Wp (evStar m r) s R X = Wp m s (fun v s1 => OW (rd v s1) fun p => OW (seqOf p) fun xs => Wp r s1 (fun ys s2 => R (xs ++ ys) s2) X) X := by
  unfold evStar
  refine (wp_bind _ _ _).trans (congrArg (fun z => Wp m s z X) (funext fun x => funext fun s1 => ?_))
  cases hr : rd x s1 with
  | none => simp [Wp, hr]
  | some p =>
    simp only [ow_some]
    cases hs : seqOf p with
    | none => simp [Wp, hr, hs]
    | some xs =>
      simp only [ow_some]
      have e : (match (rd x s1).bind seqOf with
        | some xs => (r >>= fun ys => (pure (xs ++ ys) : M (List D))) s1
        | none => .no) = (r >>= fun ys => (pure (xs ++ ys) : M (List D))) s1 := by rw [hr]; simp only [Option.bind_some, hs]
      exact (wp_same e).trans (wp_bind r _ R)
@[simp] theorem wp_esc_im (d : D) {R : D → S → Prop} : Wp (esc (.im d)) s R X = R d s := rfl
@[simp] theorem wp_esc_fr (o : Ob) {R : D → S → Prop} : Wp (esc (.fr o)) s R X = R o.d s := rfl
/-- slot i, handed on -/
def escP (i : Nat) (s : S) : Option (D × S) := match s.env[i]? with
  | some (.ow false o) => some (o.d, { s with env := s.env.set i (.im o.d) })
  | some (.im d) => some (d, s)
  | _ => none
@[simp] theorem wp_esc_pl (i : Nat) {R : D → S → Prop} : Wp (esc (.pl i)) s R X = OW (escP i s) fun r => R r.1 r.2 := by
  unfold Wp escP
  try dsimp only
  unfold esc
  try dsimp only
  cases s.env[i]? with
  | none => rfl
  | some sl =>
    cases sl with
    | un => rfl
    | im d => rfl
    | ow p o => cases p <;> rfl
@[simp] theorem wp_lst (r : M (List D)) : Wp (evLst r) s Q X = Wp r s (fun ds s1 => ds.length ≤ sizeLine ∧ Q (.fr (.lst ds)) s1) X := by
  unfold evLst
  refine (wp_bind _ _ _).trans (congrArg (fun z => Wp r s z X) (funext fun x => funext fun s1 => ?_))
  unfold Wp
  try dsimp only
  by_cases h : x.length ≤ sizeLine <;> simp [h]
@[simp] theorem wp_tup (r : M (List D)) : Wp (evTup r) s Q X = Wp r s (fun ds s1 => ds.length ≤ sizeLine ∧ Q (.im (.tup ds)) s1) X := by
  unfold evTup
  refine (wp_bind _ _ _).trans (congrArg (fun z => Wp r s z X) (funext fun x => funext fun s1 => ?_))
  unfold Wp
  try dsimp only
  by_cases h : x.length ≤ sizeLine <;> simp [h]
@[simp] theorem wp_part0 {R : Option Int → S → Prop} : Wp (evPart none) s R X = R none s := rfl
@[simp] theorem wp_part1 {R : Option Int → S → Prop} : Wp (evPart (some m)) s R X = Wp m s (fun v s1 => OW (inV v) fun i => R (some i) s1) X := by
  unfold evPart
  simp only
  refine (wp_bind _ _ _).trans (congrArg (fun z => Wp m s z X) (funext fun x => funext fun s1 => ?_))
  cases x with
  | im d => cases d <;> rfl
  | _ => rfl
@[simp] theorem wp_sl (l h : M (Option Int)) : Wp (evSl m l h) s Q X = Wp m s (fun v s1 => Wp l s1 (fun lo s2 => Wp h s2 (fun hi s3 => OW (rd v s3) fun p => OW (fSl p lo hi) fun w => Q w s3) X) X) X := by
  unfold evSl
  refine (wp_bind _ _ _).trans (congrArg (fun z => Wp m s z X) (funext fun x => funext fun s1 => ?_))
  refine (wp_bind _ _ _).trans (congrArg (fun z => Wp l s1 z X) (funext fun lo => funext fun s2 => ?_))
  refine (wp_bind _ _ _).trans (congrArg (fun z => Wp h s2 z X) (funext fun hi => funext fun s3 => ?_))
  unfold Wp
  try dsimp only
  cases rd x s3 with
  | none => rfl
  | some p => simp only [Option.bind_some, ow_some]; cases fSl p lo hi <;> rfl
@[simp] theorem wp_bl (f : List D → Option Va) (r : M (List Va)) : Wp (evBl f r) s Q X = Wp r s (fun vs s1 => OW (rdAll s1 vs) fun ps => OW (f ps) fun v => Q v s1) X := by
  unfold evBl
  refine (wp_bind _ _ _).trans (congrArg (fun z => Wp r s z X) (funext fun vs => funext fun s1 => ?_))
  unfold Wp
  try dsimp only
  cases rdAll s1 vs with
  | none => rfl
  | some ps => simp only [Option.bind_some, ow_some]; cases f ps <;> rfl
@[simp] theorem wp_mut (isT : Ob → Bool) (f : Ob → List D → Option (Ob × D)) (r : M (List D)) : Wp (evMut isT f m r) s Q X = Wp m s (fun v s1 => OW (obV v s1) fun o0 => isT o0 = true ∧ Wp r s1 (fun ds s2 => OW (obV v s2) fun o => OW (f o ds) fun z => Q (.im z.2) (putV v z.1 s2)) X) X := by
  unfold evMut
  refine (wp_bind _ _ _).trans (congrArg (fun z => Wp m s z X) (funext fun v => funext fun s1 => ?_))
  cases ho : obV v s1 with
  | none => simp [Wp, ho]
  | some o0 =>
    by_cases hi : isT o0 = true
    · simp only [ow_some, hi, true_and]
      have e : (match obV v s1 with
        | some o0 => if isT o0 = true then (r >>= (fun ds s => match obV v s with
          | some o => (match f o ds with
            | some (o', x) => Rs.ok (Va.im x) (putV v o' s)
            | none => Rs.no)
          | none => Rs.no : List D → M Va)) s1 else .no
        | none => Rs.no) = (r >>= (fun ds s => match obV v s with
          | some o => (match f o ds with
            | some (o', x) => Rs.ok (Va.im x) (putV v o' s)
            | none => Rs.no)
          | none => Rs.no : List D → M Va)) s1 := by rw [ho]; simp only [hi, if_true]
      refine (wp_same e).trans <| (wp_bind r _ Q).trans (congrArg (fun z => Wp r s1 z X) (funext fun ds => funext fun s2 => ?_))
      unfold Wp
      try dsimp only
      cases obV v s2 with
      | none => rfl
      | some o => simp only [ow_some]; cases f o ds <;> rfl
    · simp [Wp, ho, hi]
def stV : Va → Option Str
  | .im (.str z) => some z
  | _ => none
@[simp] theorem stV_str (z : Str) : stV (.im (.str z)) = some z := rfl
@[simp] theorem wp_ev0 (f : Str → Option Va) : Wp (ev0 f m) s Q X = Wp m s (fun v s1 => OW (stV v) fun z => OW (f z) fun w => Q w s1) X := by
  unfold ev0
  refine (wp_bind _ _ _).trans (congrArg (fun z => Wp m s z X) (funext fun v => funext fun s1 => ?_))
  cases v with
  | im d =>
    cases d with
    | str z => unfold Wp; simp only [stV_str, ow_some]; cases f z <;> rfl
    | _ => rfl
  | _ => rfl
@[simp] theorem wp_ev1 (f : Str → D → Option Va) : Wp (ev1 f m n) s Q X = Wp m s (fun v s1 => OW (stV v) fun z => Wp n s1 (fun y s2 => OW (rd y s2) fun q => OW (f z q) fun w => Q w s2) X) X := by
  unfold ev1
  refine (wp_bind _ _ _).trans (congrArg (fun z => Wp m s z X) (funext fun v => funext fun s1 => ?_))
  cases v with
  | im d =>
    cases d with
    | str z =>
      simp only [stV_str, ow_some]
      refine (wp_bind n _ Q).trans (congrArg (fun z => Wp n s1 z X) (funext fun y => funext fun s2 => ?_))
      unfold Wp
      try dsimp only
      cases rd y s2 with
      | none => rfl
      | some q => simp only [ow_some]; cases f z q <;> rfl
    | _ => rfl
  | _ => rfl
/-! ### calls -/
def WpF (r : Fr) (Q : Va → List Ob → Prop) (X : Xc → List Ob → Prop) : Prop := match r with
  | .ok v st => Q v st
  | .ex x st => X x st
  | .no => False
@[simp] theorem wpf_ok (v : Va) (st : List Ob) (Q : Va → List Ob → Prop) (Y : Xc → List Ob → Prop) : WpF (.ok v st) Q Y = Q v st := rfl
@[simp] theorem wpf_ex (x : Xc) (st : List Ob) (Q : Va → List Ob → Prop) (Y : Xc → List Ob → Prop) : WpF (.ex x st) Q Y = Y x st := rfl
theorem WpF.mono {r : Fr} {Q Q' : Va → List Ob → Prop} {X X' : Xc → List Ob → Prop} (h : WpF r Q X) (hq : ∀ v st, Q v st → Q' v st) (hx : ∀ x st, X x st → X' x st) : WpF r Q' X' := by
  cases r with
  | ok v st => exact hq _ _ h
  | ex x st => exact hx _ _ h
  | no => exact h
theorem WpF.eq {r : Fr} {v : Va} (h : WpF r (fun w _ => w = v) fun _ _ => False) : ∃ st, r = .ok v st := by
  cases r with
  | ok w st => cases (show w = v from h); exact ⟨st, rfl⟩
  | ex x st => exact (show False from h).elim
  | no => exact (show False from h).elim
@[simp] theorem wp_ap (f : Fs) (ds : List D) : Wp (apF f ds) s Q X = WpF (f ds s.st) (fun v st => Q v { s with st := st }) fun x st => X x { s with st := st } := by
  unfold Wp apF
  try dsimp only
  cases f ds s.st <;> rfl
@[simp] theorem wp_call (f : Fs) (des : List D) (r : M (List D)) : Wp (evCall f des r) s Q X = Wp r s (fun ds s1 => WpF (f (ds ++ des) s1.st) (fun v st => Q v { s1 with st := st }) fun x st => X x { s1 with st := st }) X := by
  unfold evCall
  simp
@[simp] theorem wp_callK (f : Fs) (g : {α : Type} → List α → List α → List α → List α) (n k : Nat) (ms : List D) (r q : M (List D)) : Wp (evCallK f g n k ms r q) s Q X = Wp r s (fun ds s1 => Wp q s1 (fun es s2 => (ds.length = n ∧ es.length = k) ∧ WpF (f (g ds ms es) s2.st) (fun v st => Q v { s2 with st := st }) fun x st => X x { s2 with st := st }) X) X := by
  unfold evCallK
  refine (wp_bind _ _ _).trans (congrArg (fun z => Wp r s z X) (funext fun ds => funext fun s1 => ?_))
  refine (wp_bind _ _ _).trans (congrArg (fun z => Wp q s1 z X) (funext fun es => funext fun s2 => ?_))
  by_cases h : ds.length = n ∧ es.length = k
  · refine (wp_same (m' := apF f (g ds ms es)) (s' := s2) (if_pos h)).trans ((wp_ap f _).trans ?_)
    rw [eq_iff_iff]
    exact ⟨fun z => ⟨h, z⟩, fun z => z.2⟩
  · refine (wp_same (m' := fun _ => Rs.no) (s' := s2) (if_neg h)).trans ?_
    rw [eq_iff_iff]
    exact ⟨fun z => z.elim, fun z => h z.1⟩
/-! ### what is walked -/
@[simp] theorem wp_It {R : List D → S → Prop} : Wp (evIt m) s R X = Wp m s (fun v s1 => Wp (esc v) s1 (fun d s2 => OW (itOf d) fun ds => R ds s2) X) X := by
  unfold evIt
  refine (wp_bind _ _ _).trans ((wp_bind _ _ _).trans (congrArg (fun z => Wp m s z X) (funext fun v => funext fun s1 => congrArg (fun z => Wp (esc v) s1 z X) (funext fun d => funext fun s2 => ?_))))
  unfold Wp
  try dsimp only
  cases itOf d <;> rfl
@[simp] theorem wp_rng1 (r : M (List D)) {R : List D → S → Prop} : Wp (evRng1 r) s R X = Wp r s (fun ds s1 => OW (rng1 ds) fun l => R l s1) X := by unfold evRng1; simp
@[simp] theorem wp_rng2 (r : M (List D)) {R : List D → S → Prop} : Wp (evRng2 r) s R X = Wp r s (fun ds s1 => OW (rng2 ds) fun l => R l s1) X := by unfold evRng2; simp
@[simp] theorem wp_enum (r : M (List D)) {R : List D → S → Prop} : Wp (evEnum r) s R X = Wp r s (fun ds s1 => OW (enum1 ds) fun l => R l s1) X := by unfold evEnum; simp
@[simp] theorem wp_zip (r : M (List D)) {R : List D → S → Prop} : Wp (evZip r) s R X = Wp r s (fun ds s1 => OW (zip1 ds) fun l => R l s1) X := by unfold evZip; simp
end

/-! ### statements -/
def WpS (o : Ot) (nx : S → Prop) (rt : Va → S → Prop) (bk ct : S → Prop) (ex : Xc → S → Prop) : Prop := match o with
  | .nx s => nx s
  | .rt v s => rt v s
  | .bk s => bk s
  | .ct s => ct s
  | .ex x s => ex x s
  | .no => False
section
variable {nx bk ct : S → Prop} {rt : Va → S → Prop} {ex : Xc → S → Prop} {s : S}
@[simp] theorem ws_nx : WpS (.nx s) nx rt bk ct ex = nx s := rfl
@[simp] theorem ws_rt (v : Va) : WpS (.rt v s) nx rt bk ct ex = rt v s := rfl
@[simp] theorem ws_bk : WpS (.bk s) nx rt bk ct ex = bk s := rfl
@[simp] theorem ws_ct : WpS (.ct s) nx rt bk ct ex = ct s := rfl
@[simp] theorem ws_skip : WpS (svSkip s) nx rt bk ct ex = nx s := rfl
@[simp] theorem ws_seq (a b : Sx) : WpS (svSeq a b s) nx rt bk ct ex = WpS (a s) (fun s1 => WpS (b s1) nx rt bk ct ex) rt bk ct ex := by
  unfold svSeq
  cases a s <;> rfl
@[simp] theorem ws_let {α : Type} (m : M α) (k : α → Sx) : WpS (svLet m k s) nx rt bk ct ex = Wp m s (fun v s1 => WpS (k v s1) nx rt bk ct ex) ex := by
  unfold svLet Wp
  cases m s <;> rfl
@[simp] theorem ws_if (c : M Bool) (a b : Sx) : WpS (svIf c a b s) nx rt bk ct ex = Wp c s (fun k s1 => if k = true then WpS (a s1) nx rt bk ct ex else WpS (b s1) nx rt bk ct ex) ex := by
  unfold svIf Wp
  cases c s with
  | ok k s1 => cases k <;> rfl
  | _ => rfl
@[simp] theorem ws_expr (m : M Va) : WpS (svExpr m s) nx rt bk ct ex = Wp m s (fun _ s1 => nx s1) ex := by unfold svExpr; simp
@[simp] theorem ws_retN : WpS (svRetN s) nx rt bk ct ex = rt (.im .non) s := rfl
/-- returned -/
def retV (v : Va) (s : S) : Option (Va × S) := match v with
  | .im d => some (.im d, s)
  | .fr o => some (.fr o, s)
  | .pl i => match s.env[i]? with
    | some (.ow false o) => some (.fr o, { s with env := s.env.set i .un })
    | some (.im d) => some (.im d, s)
    | _ => none
@[simp] theorem retV_im (d : D) : retV (.im d) s = some (.im d, s) := rfl
@[simp] theorem retV_fr (o : Ob) : retV (.fr o) s = some (.fr o, s) := rfl
@[simp] theorem ws_ret (m : M Va) : WpS (svRet m s) nx rt bk ct ex = Wp m s (fun v s1 => OW (retV v s1) fun r => rt r.1 r.2) ex := by
  unfold svRet
  rw [ws_let]
  refine congrArg (fun z => Wp m s z ex) (funext fun v => funext fun s1 => ?_)
  cases v with
  | im d => rfl
  | fr o => rfl
  | pl i =>
    show WpS (match s1.env[i]? with
      | some (.ow false o) => .rt (.fr o) { s1 with env := s1.env.set i .un }
      | some (.im d) => .rt (.im d) s1
      | _ => .no) nx rt bk ct ex = OW (match s1.env[i]? with
      | some (.ow false o) => some (.fr o, { s1 with env := s1.env.set i .un })
      | some (.im d) => some (.im d, s1)
      | _ => none) fun r => rt r.1 r.2
    cases s1.env[i]? with
    | none => rfl
    | some sl =>
      cases sl with
      | un => rfl
      | im d => rfl
      | ow p o => cases p <;> rfl
@[simp] theorem ws_set (i : Nat) (m : M Va) : WpS (svHow .set i m s) nx rt bk ct ex = Wp m s (fun v s1 => Wp (esc v) s1 (fun d s2 => nx (setIm i d s2)) ex) ex := by
  show WpS (svSet i m s) nx rt bk ct ex = _
  unfold svSet
  simp
/-- stored as the slot's own -/
def ownV (i : Nat) (v : Va) (s : S) : Option S := match v with
  | .fr o => some { s with env := s.env.set i (.ow false o) }
  | .im d => some (setIm i d s)
  | .pl _ => none
@[simp] theorem ownV_fr (i : Nat) (o : Ob) : ownV i (.fr o) s = some { s with env := s.env.set i (.ow false o) } := rfl
@[simp] theorem ownV_im (i : Nat) (d : D) : ownV i (.im d) s = some (setIm i d s) := rfl
@[simp] theorem ws_own (i : Nat) (m : M Va) : WpS (svHow .own i m s) nx rt bk ct ex = Wp m s (fun v s1 => OW (ownV i v s1) nx) ex := by
  show WpS (svSetO i m s) nx rt bk ct ex = _
  unfold svSetO
  rw [ws_let]
  refine congrArg (fun z => Wp m s z ex) (funext fun v => funext fun s1 => ?_)
  cases v <;> rfl
/-- stored as a cell -/
def cellV (i : Nat) (v : Va) (s : S) : Option S := match v with
  | .fr o => some { env := s.env.set i (.im (.ref s.st.length)), st := s.st ++ [o] }
  | .im d => some (setIm i d s)
  | .pl _ => none
@[simp] theorem cellV_fr (i : Nat) (o : Ob) : cellV i (.fr o) s = some { env := s.env.set i (.im (.ref s.st.length)), st := s.st ++ [o] } := rfl
@[simp] theorem cellV_im (i : Nat) (d : D) : cellV i (.im d) s = some (setIm i d s) := rfl
@[simp] theorem ws_cell (i : Nat) (m : M Va) : WpS (svHow .cell i m s) nx rt bk ct ex = Wp m s (fun v s1 => OW (cellV i v s1) nx) ex := by
  show WpS (svSetC i m s) nx rt bk ct ex = _
  unfold svSetC
  rw [ws_let]
  refine congrArg (fun z => Wp m s z ex) (funext fun v => funext fun s1 => ?_)
  cases v <;> rfl
@[simp] theorem ws_store (ev eo ei : M Va) : WpS (svStore ev eo ei s) nx rt bk ct ex = Wp ev s (fun v s1 => Wp (esc v) s1 (fun d s2 => Wp eo s2 (fun o s3 => Wp ei s3 (fun i s4 => OW (obV o s4) fun ob => OW (rd i s4) fun p => OW (fStore ob p d) fun ob' => nx (putV o ob' s4)) ex) ex) ex) ex := by
  unfold svStore
  rw [ws_let]
  refine (wp_bind _ _ _).trans ((wp_bind _ _ _).trans ?_)
  refine congrArg (fun z => Wp ev s z ex) (funext fun v => funext fun s1 => congrArg (fun z => Wp (esc v) s1 z ex) (funext fun d => funext fun s2 => ?_))
  refine (wp_bind _ _ _).trans (congrArg (fun z => Wp eo s2 z ex) (funext fun o => funext fun s3 => ?_))
  refine (wp_bind _ _ _).trans (congrArg (fun z => Wp ei s3 z ex) (funext fun i => funext fun s4 => ?_))
  rw [wp_pure]
  cases ho : obV o s4 with
  | none => simp [ho, WpS]
  | some ob =>
    cases hi : rd i s4 with
    | none => simp [ho, hi, WpS]
    | some p =>
      simp only [ho, hi, ow_some]
      cases fStore ob p d <;> rfl
@[simp] theorem ws_par (i j : Nat) (m : M (List D)) : WpS (svPar i j m s) nx rt bk ct ex = Wp m s (fun ds s1 => ∃ a b, ds = [a, b] ∧ nx (setIm j b (setIm i a s1))) ex := by
  unfold svPar
  rw [ws_let]
  refine congrArg (fun z => Wp m s z ex) (funext fun ds => funext fun s1 => ?_)
  split
  · apply propext
    constructor
    · intro h; exact ⟨_, _, rfl, h⟩
    · rintro ⟨a, b, e, h⟩; cases e; exact h
  · rename_i hn
    apply propext
    constructor
    · intro h; exact h.elim
    · rintro ⟨a, b, rfl, _⟩; exact hn a b rfl
@[simp] theorem ws_asg (gv : Gv) (m : M Va) : WpS (svAsg gv m s) nx rt bk ct ex = Wp m s (fun v s1 => Wp (esc v) s1 (fun d s2 => OW (gv d s2) nx) ex) ex := by
  unfold svAsg
  rw [ws_let]
  refine (wp_bind _ _ _).trans ?_
  refine congrArg (fun z => Wp m s z ex) (funext fun v => funext fun s1 => congrArg (fun z => Wp (esc v) s1 z ex) (funext fun d => funext fun s2 => ?_))
  cases gv d s2 <;> rfl
@[simp] theorem ws_for (it : M (List D)) (gv : Gv) (body : Sx) : WpS (svFor it gv body s) nx rt bk ct ex = Wp it s (fun ds s1 => WpS (forL gv body ds s1) nx rt bk ct ex) ex := by unfold svFor; simp
theorem WpS.mono {o : Ot} {nx' bk' ct' : S → Prop} {rt' : Va → S → Prop} {ex' : Xc → S → Prop} (h : WpS o nx rt bk ct ex) (h1 : ∀ s, nx s → nx' s) (h2 : ∀ v s, rt v s → rt' v s) (h3 : ∀ s, bk s → bk' s) (h4 : ∀ s, ct s → ct' s) (h5 : ∀ x s, ex x s → ex' x s) : WpS o nx' rt' bk' ct' ex' := by
  cases o with
  | nx s => exact h1 _ h
  | rt v s => exact h2 _ _ h
  | bk s => exact h3 _ h
  | ct s => exact h4 _ h
  | ex x s => exact h5 _ _ h
  | no => exact h
/-- a for, by what holds at each turn -/
theorem for_inv {gv : Gv} {body : Sx} (ds : List D) (I : Nat → S → Prop) (h0 : I 0 s) (hs : ∀ (i : Nat) (d : D) (s : S), ds[i]? = some d → I i s → OW (gv d s) fun s1 => WpS (body s1) (I (i + 1)) rt nx (I (i + 1)) ex) (he : ∀ s, I ds.length s → nx s) : WpS (forL gv body ds s) nx rt bk ct ex := by
  induction ds generalizing s I with
  | nil => exact he s h0
  | cons d ds ih =>
    have h := hs 0 d s rfl h0
    unfold forL
    cases hg : gv d s with
    | none => rw [hg] at h; exact h.elim
    | some s1 =>
      rw [hg] at h
      have h : WpS (body s1) (I 1) rt nx (I 1) ex := h
      have next : ∀ s2, I 1 s2 → WpS (forL gv body ds s2) nx rt bk ct ex := fun s2 h2 => ih (s := s2) (fun i => I (i + 1)) h2 (fun i e s3 he hi => hs (i + 1) e s3 (by simpa using he) hi) fun s3 h3 => he s3 (by simpa using h3)
      simp only
      cases hb : body s1 with
      | nx s2 => rw [hb] at h; exact next s2 h
      | ct s2 => rw [hb] at h; exact next s2 h
      | bk s2 => rw [hb] at h; exact h
      | rt v s2 => rw [hb] at h; exact h
      | ex x s2 => rw [hb] at h; exact h
      | no => rw [hb] at h; exact h.elim
/-- a while, by an invariant and a measure -/
theorem while_inv {c : M Bool} {body : Sx} (I : Nat → S → Prop) (n : Nat) (h0 : I n s) (hs : ∀ n s, I n s → Wp c s (fun k s1 => if k = true then ∃ N : S → Prop, (∀ s', N s' → ∃ m, m < n ∧ I m s') ∧ WpS (body s1) N rt nx N ex else nx s1) ex) : WpS (svWhile c body s) nx rt bk ct ex := by
  have key : ∀ n s, I n s → ∃ o, whileN c body (n + 1) s = o ∧ o ≠ .no ∧ WpS o nx rt bk ct ex := by
    intro n
    induction n using Nat.strongRecOn with
    | _ n ih =>
      intro s h
      have h1 := hs n s h
      unfold Wp at h1
      unfold whileN
      cases hc : c s with
      | no => rw [hc] at h1; exact h1.elim
      | ex x s1 => rw [hc] at h1; exact ⟨_, rfl, by simp, h1⟩
      | ok k s1 =>
        rw [hc] at h1
        cases k with
        | false => exact ⟨_, rfl, by simp, by simpa using h1⟩
        | true =>
          simp only [if_true] at h1
          obtain ⟨N, hN, h1⟩ := h1
          have go : ∀ s2, N s2 → ∃ o, whileN c body n s2 = o ∧ o ≠ .no ∧ WpS o nx rt bk ct ex := fun s2 h2 => by
            obtain ⟨m, hm, i2⟩ := hN s2 h2
            obtain ⟨o, e, ne, w⟩ := ih m hm s2 i2
            exact ⟨o, by rw [whileN_mono (m + 1) n s2 hm (by rw [e]; exact ne), e], ne, w⟩
          simp only
          cases hb : body s1 with
          | nx s2 => rw [hb] at h1; exact go s2 h1
          | ct s2 => rw [hb] at h1; exact go s2 h1
          | bk s2 => rw [hb] at h1; exact ⟨_, rfl, by simp, h1⟩
          | rt v s2 => rw [hb] at h1; exact ⟨_, rfl, by simp, h1⟩
          | ex x s2 => rw [hb] at h1; exact ⟨_, rfl, by simp, h1⟩
          | no => rw [hb] at h1; exact h1.elim
  obtain ⟨o, e, ne, w⟩ := key n s h0
  rw [svWhile_eq e ne]
  exact w
/-- a def -/
@[simp] theorem wpf_fn (n N : Nat) (sv : Sx) (ds : List D) (st : List Ob) {Q : Va → List Ob → Prop} {Y : Xc → List Ob → Prop} : WpF (fnOf n N sv ds st) Q Y = (ds.length = n ∧ WpS (sv ⟨ds.map .im ++ List.replicate (N - n) .un, st⟩) (fun s => Q (.im .non) s.st) (fun v s => (∀ i, v ≠ .pl i) ∧ Q v s.st) (fun _ => False) (fun _ => False) fun x s => Y x s.st) := by
  unfold fnOf
  by_cases h : ds.length = n
  · rw [if_pos h]
    simp only [h, true_and]
    cases sv ⟨ds.map .im ++ List.replicate (N - n) .un, st⟩ with
    | nx s => rfl
    | rt v s =>
      cases v with
      | im d => simp [WpF, WpS]
      | fr o => simp [WpF, WpS]
      | pl i => simp [WpF, WpS]
    | _ => rfl
  · rw [if_neg h]
    simp [h, WpF]
end

/-! ### list comprehensions -/
section
variable {vs : List Nat} {gv : Gv} {tt : M Bool} {te : M Va} {X : Xc → S → Prop} {s : S}
def W1 {α : Type} (m : M α) (s : S) (Q : α → S → Prop) : Prop := Wp m s Q fun _ _ => False
/-- by what holds at each turn of what is found and of the state -/
theorem comp_inv {Q : List D → S → Prop} (ds : List D) (I : Nat → List D → S → Prop) {acc : List D} (h0 : I 0 acc s) (hs : ∀ (i : Nat) (d : D) (acc : List D) (s : S), ds[i]? = some d → I i acc s → OW (gv d s) fun s1 => W1 tt s1 fun k s2 => if k = true then W1 te s2 fun v s3 => W1 (esc v) s3 fun y s4 => acc.length < sizeLine ∧ I (i + 1) (acc ++ [y]) (wipeS vs s4) else I (i + 1) acc (wipeS vs s2))
    (he : ∀ acc s, I ds.length acc s → Q acc s) : ∃ acc' s', compL vs gv tt te ds acc s = .ok acc' s' ∧ Q acc' s' := by
  induction ds generalizing s acc I with
  | nil => exact ⟨acc, s, rfl, he acc s h0⟩
  | cons d ds ih =>
    have h := hs 0 d acc s rfl h0
    unfold compL
    cases hg : gv d s with
    | none => rw [hg] at h; exact h.elim
    | some s1 =>
      rw [hg] at h
      have h : Wp tt s1 (fun k s2 => if k = true then Wp te s2 (fun v s3 => Wp (esc v) s3 (fun y s4 => acc.length < sizeLine ∧ I 1 (acc ++ [y]) (wipeS vs s4)) fun _ _ => False) (fun _ _ => False) else I 1 acc (wipeS vs s2)) fun _ _ => False := h
      have next : ∀ acc2 s2, I 1 acc2 s2 → ∃ acc' s', compL vs gv tt te ds acc2 s2 = .ok acc' s' ∧ Q acc' s' := fun acc2 s2 h2 => ih (s := s2) (acc := acc2) (fun i => I (i + 1)) h2 (fun i e a s3 he hi => hs (i + 1) e a s3 (by simpa using he) hi) fun a s3 h3 => he a s3 (by simpa using h3)
      unfold Wp at h
      simp only
      cases ht : tt s1 with
      | no => rw [ht] at h; exact h.elim
      | ex x s2 => rw [ht] at h; exact h.elim
      | ok k s2 =>
        rw [ht] at h
        cases k with
        | false => exact next acc _ (by simpa using h)
        | true =>
          simp only [if_true] at h
          have h : Wp (te >>= esc) s2 (fun y s4 => acc.length < sizeLine ∧ I 1 (acc ++ [y]) (wipeS vs s4)) (fun _ _ => False) := by
            rw [wp_bind]; exact h
          unfold Wp at h
          simp only
          cases hy : (te >>= esc) s2 with
          | no => rw [hy] at h; exact h.elim
          | ex x s3 => rw [hy] at h; exact h.elim
          | ok y s3 =>
            rw [hy] at h
            simp only
            rw [if_pos h.1]
            exact next _ _ h.2
theorem wp_comp {Q : Va → S → Prop} (it : M (List D)) : Wp (evComp vs it gv tt te) s Q X = Wp it s (fun ds s1 => ∃ acc s2, compL vs gv tt te ds [] (wipeS vs s1) = .ok acc s2 ∧ Q (.fr (.lst acc)) (mergeS vs s1 s2)) X := by
  unfold evComp
  refine (wp_bind _ _ _).trans (congrArg (fun z => Wp it s z X) (funext fun ds => funext fun s1 => ?_))
  unfold Wp
  try dsimp only
  cases compL vs gv tt te ds [] (wipeS vs s1) with
  | ok acc s2 =>
    apply propext
    constructor
    · intro h; exact ⟨_, _, rfl, h⟩
    · rintro ⟨a, b, e, h⟩; cases e; exact h
  | ex x s2 =>
    apply propext
    constructor
    · intro h; exact h.elim
    · rintro ⟨a, b, e, h⟩; cases e
  | no =>
    apply propext
    constructor
    · intro h; exact h.elim
    · rintro ⟨a, b, e, h⟩; cases e
end
end VI
end
section
set_option Elab.async false
set_option linter.all false
set_option maxRecDepth 100000
set_option maxHeartbeats 2000000
/-! V17: comprehensions that leave the state; cutting a text. -/
namespace VI
open PySem

theorem merge_wipe (vs : List Nat) (s : S) : mergeS vs s (wipeS vs s) = s := by
  have e : mergeE vs s.env (wipeE s.env vs) = s.env := by
    refine List.ext_getElem? fun i => ?_
    by_cases hi : i ∈ vs
    · rw [mergeE_in (by rw [wipeE_length]) hi]
    · rw [mergeE_out hi, wipeE_out hi]
  show S.mk (mergeE vs s.env (wipeE s.env vs)) s.st = s
  rw [e]
section
variable {vs : List Nat} {gv : Gv} {tt : M Bool} {te : M Va} {X : Xc → S → Prop} {s : S}
theorem comp_pure (ds : List D) (f : D → Option D) (acc : List D) (h : ∀ d ∈ ds, OW (gv d s) fun s1 => W1 tt s1 fun k s2 => if k = true then W1 te s2 fun v s3 => W1 (esc v) s3 fun y s4 => f d = some y ∧ wipeS vs s4 = s else f d = none ∧ wipeS vs s2 = s) (hl : acc.length + ds.length ≤ sizeLine) :
    compL vs gv tt te ds acc s = .ok (acc ++ ds.filterMap f) s := by
  obtain ⟨a, b, e, h1, h2⟩ := comp_inv (vs := vs) (gv := gv) (tt := tt) (te := te) (s := s) (acc := acc) (Q := fun a s' => a = acc ++ ds.filterMap f ∧ s' = s) ds (fun i a s' => s' = s ∧ a = acc ++ (ds.take i).filterMap f) ⟨rfl, by simp⟩ (fun i d a s' hd ⟨e1, e2⟩ => by
    subst e1 e2
    have hi := (List.getElem?_eq_some_iff.mp hd).1
    have hm := h d (List.mem_of_getElem? hd)
    have et : ds.take (i + 1) = ds.take i ++ [d] := by rw [List.take_succ, hd]; rfl
    have hlen : (acc ++ (ds.take i).filterMap f).length < sizeLine := by
      rw [List.length_append]
      have := List.length_filterMap_le f (ds.take i)
      rw [List.length_take] at this
      omega
    cases hg : gv d s' with
    | none => rw [hg] at hm; exact hm
    | some s1 =>
      rw [hg] at hm
      have hm : Wp tt s1 (fun k s2 => if k = true then W1 te s2 fun v s3 => W1 (esc v) s3 fun y s4 => f d = some y ∧ wipeS vs s4 = s' else f d = none ∧ wipeS vs s2 = s') (fun _ _ => False) := hm
      refine Wp.mono hm (fun k s2 hk => ?_) (fun _ _ z => z)
      cases k with
      | true =>
        rw [if_pos rfl] at hk ⊢
        refine Wp.mono hk (fun v s3 hv => Wp.mono hv (fun y s4 ⟨q1, q2⟩ => ⟨hlen, q2, ?_⟩) fun _ _ z => z) (fun _ _ z => z)
        rw [et, List.filterMap_append, List.append_assoc]
        simp [q1]
      | false =>
        rw [if_neg (by simp)] at hk ⊢
        refine ⟨hk.2, ?_⟩
        rw [et, List.filterMap_append]
        simp [hk.1]) (fun a s' ⟨e1, e2⟩ => ⟨by rw [e2, List.take_length], e1⟩)
  rw [e, h1, h2]
theorem wp_comp_pure {Q : Va → S → Prop} {it : M (List D)} (f : D → Option D) (h : Wp it s (fun ds s1 => (∀ d ∈ ds, OW (gv d (wipeS vs s1)) fun s2 => W1 tt s2 fun k s3 => if k = true then W1 te s3 fun v s4 => W1 (esc v) s4 fun y s5 => f d = some y ∧ wipeS vs s5 = wipeS vs s1 else f d = none ∧ wipeS vs s3 = wipeS vs s1) ∧ ds.length ≤ sizeLine ∧ Q (.fr (.lst (ds.filterMap f))) s1) X) :
    Wp (evComp vs it gv tt te) s Q X := by
  rw [wp_comp]
  refine Wp.mono h (fun ds s1 ⟨h1, h2, h3⟩ => ?_) fun _ _ z => z
  exact ⟨_, _, comp_pure ds f [] h1 (by simpa using h2), by rw [merge_wipe]; simpa using h3⟩
end

/-! ### a text cut at a sign -/
/-- the pieces of L between the signs c; acc: what the first piece begins with -/
def cutC (c : Nat) : List Nat → List Nat → List (List Nat)
  | acc, [] => [acc]
  | acc, d :: L => if d = c then acc :: cutC c [] L else cutC c (acc ++ [d]) L
theorem spl_cut (c : Nat) : ∀ (L acc : List Nat), TL.spl [c] 0 acc L = cutC c acc L
  | [], acc => by rw [TL.spl_nil]; rfl
  | d :: L, acc => by
    unfold cutC
    by_cases h : d = c
    · subst h
      rw [if_pos rfl]
      have hp : TL.pre [d] (d :: L) = true := by simp [TL.pre]
      rw [TL.spl_hit hp]
      exact congrArg (acc :: ·) (spl_cut d L [])
    · rw [if_neg h]
      have hp : TL.pre [c] (d :: L) = false := by simp [TL.pre, h]
      rw [TL.spl_miss hp]
      exact spl_cut c L (acc ++ [d])
end VI
end
section
set_option Elab.async false
set_option linter.all false
set_option maxRecDepth 100000
set_option maxHeartbeats 2000000
/-! V18: values at their forms (for simp). -/
namespace VI
open PySem
section
variable {s : S} {i j : Int} {n k : Nat} {x y : Str} {xs ys : List D} {b c : Bool} {p q : D} {o : Ob}
@[simp] theorem rd_non : rd (.im .non) s = some .non := rfl
@[simp] theorem rd_bl : rd (.im (.bl b)) s = some (.bl b) := rfl
@[simp] theorem rd_int : rd (.im (.int i)) s = some (.int i) := rfl
@[simp] theorem rd_str : rd (.im (.str x)) s = some (.str x) := rfl
@[simp] theorem rd_ty {z : String} : rd (.im (.ty z)) s = some (.ty z) := rfl
@[simp] theorem rd_lst : rd (.im (.lst xs)) s = some (.lst xs) := rfl
@[simp] theorem rd_tup : rd (.im (.tup xs)) s = some (.tup xs) := rfl
@[simp] theorem rd_lz : rd (.im (.lz xs)) s = some (.lz xs) := rfl
@[simp] theorem rd_tz : rd (.im (.tz xs)) s = some (.tz xs) := rfl
@[simp] theorem rd_dk {kvs : List (L2.Key × D)} : rd (.im (.dk kvs)) s = some (.dk kvs) := rfl
@[simp] theorem rd_dt {kvs : List (List L2.Key × D)} : rd (.im (.dt kvs)) s = some (.dt kvs) := rfl
@[simp] theorem rd_ins {z : Str} {fs : List (Str × D)} : rd (.im (.ins z fs)) s = some (.ins z fs) := rfl
@[simp] theorem rd_fn {z : Str} : rd (.im (.fn z)) s = some (.fn z) := rfl
@[simp] theorem rd_ref : rd (.im (.ref n)) s = s.st[n]?.map Ob.d := rfl
@[simp] theorem rd_fr : rd (.fr o) s = some o.d := rfl
/-- what the slot i has, read -/
def slD : Option Sl → Option D
  | some (.ow _ o) => some o.d
  | some (.im (.ref _)) => none
  | some (.im d) => some d
  | _ => none
@[simp] theorem rd_pl : rd (.pl n) s = slD s.env[n]? := by
  show (match s.env[n]? with
    | some (.ow _ o) => some o.d
    | some (.im (.ref _)) => none
    | some (.im d) => some d
    | _ => none) = _
  cases s.env[n]? with
  | none => rfl
  | some sl =>
    cases sl with
    | im d => cases d <;> rfl
    | _ => rfl
@[simp] theorem slD_ow {p : Bool} : slD (some (.ow p o)) = some o.d := rfl
@[simp] theorem slD_lst : slD (some (.im (.lst xs))) = some (.lst xs) := rfl
@[simp] theorem slD_str : slD (some (.im (.str x))) = some (.str x) := rfl
@[simp] theorem slD_non : slD (some (.im .non)) = some .non := rfl
@[simp] theorem slD_int : slD (some (.im (.int i))) = some (.int i) := rfl
@[simp] theorem obd_lst : (Ob.lst xs).d = .lst xs := rfl
@[simp] theorem obd_dk {kvs : List (L2.Key × D)} : (Ob.dk kvs).d = .dk kvs := rfl
@[simp] theorem obd_dt {kvs : List (List L2.Key × D)} : (Ob.dt kvs).d = .dt kvs := rfl
@[simp] theorem obd_ins {z : Str} {fs : List (Str × D)} : (Ob.ins z fs).d = .ins z fs := rfl
@[simp] theorem rda_nil : rdAll s [] = some [] := rfl
@[simp] theorem rda_cons {v : Va} {vs : List Va} {Q : List D → Prop} : OW (rdAll s (v :: vs)) Q = OW (rd v s) fun d => OW (rdAll s vs) fun ds => Q (d :: ds) := by
  show OW (match rd v s, rdAll s vs with
    | some d, some ds => some (d :: ds)
    | _, _ => none) Q = _
  cases rd v s with
  | none => rfl
  | some d => cases rdAll s vs <;> rfl
/-- the slots -/
def slV (n : Nat) : Option Sl → Option Va
  | some (.im d) => some (.im d)
  | some (.ow _ _) => some (.pl n)
  | _ => none
@[simp] theorem getV_eq : getV n s = slV n s.env[n]? := by
  unfold getV
  cases s.env[n]? with
  | none => rfl
  | some sl => cases sl <;> rfl
@[simp] theorem slV_im {d : D} : slV n (some (.im d)) = some (.im d) := rfl
@[simp] theorem slV_ow {p : Bool} : slV n (some (.ow p o)) = some (.pl n) := rfl
@[simp] theorem setIm_env {d : D} : (setIm n d s).env = s.env.set n (.im d) := rfl
@[simp] theorem setIm_st {d : D} : (setIm n d s).st = s.st := rfl
@[simp] theorem setIm_mk {d : D} {e : List Sl} {st : List Ob} : setIm n d ⟨e, st⟩ = ⟨e.set n (.im d), st⟩ := rfl
@[simp] theorem wipeS_mk {e : List Sl} {st : List Ob} {vs : List Nat} : wipeS vs ⟨e, st⟩ = ⟨wipeE e vs, st⟩ := rfl
@[simp] theorem wipeE_nil {e : List Sl} : wipeE e [] = e := rfl
@[simp] theorem wipeE_cons {e : List Sl} {vs : List Nat} : wipeE e (n :: vs) = (wipeE e vs).set n .un := rfl
@[simp] theorem obV_ref : obV (.im (.ref n)) s = s.st[n]? := rfl
/-- the slot's own container -/
def slO : Option Sl → Option Ob
  | some (.ow _ o) => some o
  | _ => none
@[simp] theorem obV_pl : obV (.pl n) s = slO s.env[n]? := by
  show (match s.env[n]? with
    | some (.ow _ o) => some o
    | _ => none) = _
  cases s.env[n]? with
  | none => rfl
  | some sl => cases sl <;> rfl
@[simp] theorem slO_ow {p : Bool} : slO (some (.ow p o)) = some o := rfl
@[simp] theorem putV_ref : putV (.im (.ref n)) o s = { s with st := s.st.set n o } := rfl
theorem putV_pl {p : Bool} {o' : Ob} (h : s.env[n]? = some (.ow p o')) : putV (.pl n) o s = { s with env := s.env.set n (.ow p o) } := by
  show (match s.env[n]? with
    | some (.ow p _) => { s with env := s.env.set n (.ow p o) }
    | _ => s) = _
  rw [h]
@[simp] theorem escP_eq {Q : D × S → Prop} : OW (escP n s) Q = (match s.env[n]? with
    | some (.ow false o) => Q (o.d, { s with env := s.env.set n (.im o.d) })
    | some (.im d) => Q (d, s)
    | _ => False) := by
  unfold escP
  cases s.env[n]? with
  | none => rfl
  | some sl =>
    cases sl with
    | ow p o => cases p <;> rfl
    | _ => rfl
/-! ### operators -/
@[simp] theorem fAdd_int : fAdd (.int i) (.int j) = some (.im (.int (i + j))) := rfl
@[simp] theorem fAdd_str : fAdd (.str x) (.str y) = if x.length + y.length ≤ sizeLine then some (.im (.str (x ++ y))) else none := rfl
@[simp] theorem fAdd_lst : fAdd (.lst xs) (.lst ys) = if xs.length + ys.length ≤ sizeLine then some (.fr (.lst (xs ++ ys))) else none := rfl
@[simp] theorem fAdd_tup : fAdd (.tup xs) (.tup ys) = if xs.length + ys.length ≤ sizeLine then some (.im (.tup (xs ++ ys))) else none := rfl
@[simp] theorem fI_int {C : Int → Int → Bool} {g : Int → Int → Int} : fI C g (.int i) (.int j) = if C i j = true then some (.im (.int (g i j))) else none := rfl
@[simp] theorem okDiv_eq : okDiv i j = true ↔ 0 < j ∧ j < 1073741824 := by simp [okDiv]
@[simp] theorem okMod_eq : okMod i j = true ↔ 0 < j := by simp [okMod]
@[simp] theorem okPow_eq : okPow i j = true ↔ 0 ≤ j ∧ j ≤ 1000000 ∧ i.natAbs < 18446744073709551616 := by simp [okPow]
@[simp] theorem okMul_eq : okMul i j = true ↔ (-18446744073709551616 < i ∧ i < 18446744073709551616) ∨ (-18446744073709551616 < j ∧ j < 18446744073709551616) := by simp [okMul]
@[simp] theorem fMul_int : fMul (.int i) (.int j) = if okMul i j = true then some (.im (.int (i * j))) else none := rfl
@[simp] theorem fMul_str : fMul (.str x) (.int j) = if (decide (0 ≤ j) && (decide (j < 1073741824) && decide (x.length * j.toNat ≤ sizeLine))) = true then some (.im (.str ⟨(List.replicate j.toNat x.cps.toList).flatten.toArray⟩)) else none := rfl
@[simp] theorem fMul_lst : fMul (.lst xs) (.int j) = if (decide (0 ≤ j) && (decide (j < 9223372036854775808) && decide (xs.length * j.toNat ≤ sizeLine))) = true then some (.fr (.lst (List.replicate j.toNat xs).flatten)) else none := rfl
@[simp] theorem fLt_int : fLt (.int i) (.int j) = some (.im (.bl (decide (i < j)))) := rfl
@[simp] theorem fGt_int : fGt (.int i) (.int j) = some (.im (.bl (decide (j < i)))) := rfl
@[simp] theorem fLe_int : fLe (.int i) (.int j) = some (.im (.bl (decide (i ≤ j)))) := rfl
@[simp] theorem fGe_int : fGe (.int i) (.int j) = some (.im (.bl (decide (j ≤ i)))) := rfl
@[simp] theorem fIx_lst : fIx (.lst xs) (.int i) = (L2.atI xs i).map .im := rfl
@[simp] theorem fIx_tup : fIx (.tup xs) (.int i) = (L2.atI xs i).map .im := rfl
@[simp] theorem fIx_lz : fIx (.lz xs) (.int i) = (L2.atI xs i).map .im := rfl
@[simp] theorem fIx_tz : fIx (.tz xs) (.int i) = (L2.atI xs i).map .im := rfl
@[simp] theorem fIx_str : fIx (.str x) (.int i) = if x.length ≤ sizeLine then (L2.atI x.cps.toList i).map fun c => .im (.str ⟨#[c]⟩) else none := rfl
@[simp] theorem fStore_lst {v : D} : fStore (.lst xs) (.int i) v = (L2.ixN xs.length i).map fun j => .lst (xs.set j v) := rfl
@[simp] theorem set_self' {α : Type} {l : List α} {m : Nat} {v : α} : (l.set m v)[m]? = (l[m]?).map fun _ => v := by
  by_cases h : m < l.length
  · simp [h]
  · rw [List.getElem?_eq_none (by simpa using h), List.getElem?_eq_none (by omega)]; rfl
theorem atI_of {α : Type} {l : List α} (h : 0 ≤ i) (h2 : i < l.length) : L2.atI l i = some (l[i.toNat]'(by omega)) := by
  unfold L2.atI L2.ixN
  simp [h, h2]
end
end VI
end
section
set_option Elab.async false
set_option linter.all false
set_option maxRecDepth 100000
set_option maxHeartbeats 2000000
namespace K04
open PySem PySem.Spec L2 VI
/-! the evaluators (printed by gen.py) -/
/-- _law_box(_law_cell_here): slots _law_cell_here -/
noncomputable def f__law_box : Fs := fnOf 1 1 ((svRet (evLst (evCons (evBl fMax2 (evConsV (evC (.int 0)) (evConsV (evOp fSub (evVar 0) (evOp fPow (evC (.int 10)) (evC (.int 18)))) evNilV))) (evCons (evOp fMod (evVar 0) (evC (.int 2147483629))) (evCons (evC (.int 0)) evNil))))))
/-- _law_cell(_law_script, _law_k): slots _law_script, _law_k -/
noncomputable def f__law_cell : Fs := fnOf 2 2 ((svRet (evIf (evB (evOp fLt (evVar 1) (evBl fLen (evConsV (evVar 0) evNilV)))) (evOp fIx (evVar 0) (evVar 1)) (evOp fAdd (evOp fMul (evC (.int 7111)) (evVar 1)) (evC (.int 339))))))
/-- _law_due(_law_line, _law_mark): slots _law_line, _law_mark, _law_cuts, _law_found, _law_k, _law_sign, _law_one, _law_other -/
noncomputable def f__law_due : Fs := fnOf 2 8 ((svSeq (svIf (mOr (evB (evOp fIn (evC (.str ("\n" : Str))) (evVar 0))) (evB (evOp fEq (evVar 0) (evC (.str ("" : Str)))))) (svRet (evC .non)) svSkip)
  (svSeq (svHow .own 2 (evOp fAdd (evOp fAdd (evLst (evCons (evNeg (evC (.int 1))) evNil)) (evComp [4, 5] (evEnum (evCons (evVar 0) evNil)) (gvTup 2 (gvCons (gvName 4) (gvCons (gvName 5) gvNil))) (evB (evOp fEq (evVar 5) (evVar 1))) (evVar 4))) (evLst (evCons (evBl fLen (evConsV (evVar 0) evNilV)) evNil))))
  (svSeq (svHow .own 3 (evComp [6, 7] (evZip (evCons (evVar 2) (evCons (evSl (evVar 2) (evPart (some (evC (.int 1)))) (evPart none)) evNil))) (gvTup 2 (gvCons (gvName 6) (gvCons (gvName 7) gvNil))) (pure true) (evSl (evVar 0) (evPart (some (evOp fAdd (evVar 6) (evC (.int 1))))) (evPart (some (evVar 7))))))
  (svRet (evIf (evB (evOp fNotIn (evC (.str ("" : Str))) (evVar 3))) (evVar 3) (evC .non)))))))
/-- split_words(text, separator): slots text, separator, words -/
def g_split_words_0_text_separator {α : Type} (us mv ws : List α) : List α := perm [0, 1] (us ++ (mv ++ ws))
def g_split_words_1_separator {α : Type} (us mv ws : List α) : List α := perm [0, 1] (us ++ (mv ++ ws))
noncomputable def f_split_words : Fs := fnOf 2 3 ((svSeq (svIf (mOr (mNot (evT (evBl fIsi (evConsV (evVar 0) (evConsV (evC (.ty "str")) evNilV))))) (evB (evOp fIn (evC (.str ("\n" : Str))) (evVar 0)))) (svRet (evC .non)) svSkip)
  (svSeq (svHow .own 2 (ev1 fSplit (evVar 0) (evVar 1)))
  (svRet (evIf (evB (evOp fNotIn (evC (.str ("" : Str))) (evVar 2))) (evVar 2) (evC .non))))))
/-- _law_right(_law_line, _law_mark): slots _law_line, _law_mark, _law_turn, _law_found -/
noncomputable def f__law_right : Fs := fnOf 2 4 ((svSeq (svFor (evRng1 (evCons (evC (.int 2)) evNil)) (gvName 2)
  (svSeq (svHow .own 3 (evCallK f_split_words g_split_words_1_separator 1 1 [] (evCons (evVar 0) evNil) (evCons (evVar 1) evNil)))
  (svSeq (svIf (evB (evOp fNe (evVar 3) (evCall f__law_due [] (evCons (evVar 0) (evCons (evVar 1) evNil))))) (svRet (evC (.bl false))) svSkip)
  (svIf (evB (evOp fIsnt (evVar 3) (evC .non))) (svExpr (evMut isLst fAppend (evVar 3) (evCons (evC (.str ("late" : Str))) evNil))) svSkip))))
  (svRet (evOr (evOp fNe (evVar 1) (evC (.str (" " : Str)))) (evOp fEq (evCall f_split_words [(.str " ")] (evCons (evVar 0) evNil)) (evCall f__law_due [] (evCons (evVar 0) (evCons (evVar 1) evNil))))))))
/-- _law_take(_law_box_here, _law_many): slots _law_box_here, _law_many, _law_digit, _law_number -/
noncomputable def f__law_take : Fs := fnOf 2 4 ((svSeq (svIf (evB (evOp fGt (evOp fIx (evVar 0) (evC (.int 0))) (evC (.int 0)))) (svSeq (svHow .own 2 (evOp fMod (evOp fIx (evVar 0) (evC (.int 0))) (evVar 1)))
  (svSeq (svStore (evOp fDiv (evOp fIx (evVar 0) (evC (.int 0))) (evVar 1)) (evVar 0) (evC (.int 0)))
  (svRet (evVar 2)))) svSkip)
  (svSeq (svStore (evOp fAdd (evOp fIx (evVar 0) (evC (.int 2))) (evC (.int 1))) (evVar 0) (evC (.int 2)))
  (svSeq (svHow .own 3 (evOp fMod (evOp fPow (evOp fAdd (evOp fAdd (evOp fIx (evVar 0) (evC (.int 1))) (evOp fMul (evC (.int 6143)) (evOp fIx (evVar 0) (evC (.int 2))))) (evC (.int 445))) (evC (.int 5))) (evC (.int 2147483647))))
  (svSeq (svHow .own 3 (evOp fMod (evOp fPow (evOp fAdd (evVar 3) (evOp fMul (evC (.int 104729)) (evOp fIx (evVar 0) (evC (.int 2))))) (evC (.int 3))) (evC (.int 2147483587))))
  (svRet (evOp fMod (evOp fDiv (evVar 3) (evC (.int 16))) (evVar 1))))))))
/-- _law_word(_law_box_here, _law_mark): slots _law_box_here, _law_mark, _law_signs, _law_word_here, _law_k, _law_sign -/
noncomputable def f__law_word : Fs := fnOf 2 6 ((svSeq (svHow .own 2 (evOp fAdd (evC (.str ("abcxyzABZ0129 .,:;!?/()[]{}<>=+-*#@&$^|~_'" : Str))) (evC (.str ("\"" : Str)))))
  (svSeq (svHow .own 3 (ev1 fJoin (evC (.str ("" : Str))) (evComp [4] (evRng1 (evCons (evOp fAdd (evC (.int 1)) (evCall f__law_take [] (evCons (evVar 0) (evCons (evC (.int 6)) evNil)))) evNil)) (gvName 4) (pure true) (evOp fIx (evVar 2) (evCall f__law_take [] (evCons (evVar 0) (evCons (evC (.int 43)) evNil)))))))
  (svSeq (svHow .own 3 (ev1 fJoin (evC (.str ("" : Str))) (evComp [5] (evIt (evVar 3)) (gvName 5) (evB (evOp fNe (evVar 5) (evVar 1))) (evVar 5))))
  (svRet (evIf (evB (evOp fNe (evVar 3) (evC (.str ("" : Str))))) (evVar 3) (evOp fIx (evLst (evCons (evC (.str ("a" : Str))) (evCons (evC (.str ("b" : Str))) evNil))) (evBl fInt (evConsV (evOp fEq (evVar 1) (evC (.str ("a" : Str)))) evNilV)))))))))
/-- law(_law_script): slots _law_script, _law_k, _law_box_here, _law_mark, _law_many, _law_words, _law_line, _law_at, _law_long, _law_rows, _law_one, _law_thing, _law_turn -/
noncomputable def f_law : Fs := fnOf 1 13 ((svSeq (svFor (evRng1 (evCons (evBl fMax2 (evConsV (evC (.int 2)) (evConsV (evBl fMin2 (evConsV (evC (.int 10)) (evConsV (evBl fLen (evConsV (evVar 0) evNilV)) evNilV))) evNilV))) evNil)) (gvName 1)
  (svSeq (svHow .cell 2 (evCall f__law_box [] (evCons (evCall f__law_cell [] (evCons (evVar 0) (evCons (evVar 1) evNil))) evNil)))
  (svSeq (svHow .own 3 (evOp fIx (evLst (evCons (evC (.str (" " : Str))) (evCons (evC (.str (" " : Str))) (evCons (evC (.str ("+" : Str))) (evCons (evC (.str (";" : Str))) (evCons (evC (.str (":" : Str))) (evCons (evC (.str ("a" : Str))) (evCons (evC (.str ("~" : Str))) evNil)))))))) (evCall f__law_take [] (evCons (evVar 2) (evCons (evC (.int 7)) evNil)))))
  (svSeq (svHow .own 4 (evOp fIx (evLst (evCons (evOp fAdd (evC (.int 1)) (evCall f__law_take [] (evCons (evVar 2) (evCons (evC (.int 6)) evNil)))) (evCons (evCall f__law_take [] (evCons (evVar 2) (evCons (evC (.int 40)) evNil))) evNil))) (evCall f__law_take [] (evCons (evVar 2) (evCons (evC (.int 2)) evNil)))))
  (svSeq (svHow .own 5 (evComp [12] (evRng1 (evCons (evVar 4) evNil)) (gvName 12) (pure true) (evCall f__law_word [] (evCons (evVar 2) (evCons (evVar 3) evNil)))))
  (svSeq (svHow .own 6 (ev1 fJoin (evVar 3) (evVar 5)))
  (svSeq (svPar 7 8 (evCons (evCall f__law_take [] (evCons (evVar 2) (evCons (evOp fAdd (evBl fLen (evConsV (evVar 6) evNilV)) (evC (.int 1))) evNil))) (evCons (evAnd (evOp fEq (evVar 1) (evC (.int 0))) (evOp fEq (evCall f__law_take [] (evCons (evVar 2) (evCons (evC (.int 3)) evNil))) (evC (.int 0)))) evNil)))
  (svSeq (svHow .own 9 (evLst (evCons (evVar 6) (evCons (evOp fAdd (evOp fAdd (evSl (evVar 6) (evPart none) (evPart (some (evVar 7)))) (evVar 3)) (evSl (evVar 6) (evPart (some (evVar 7))) (evPart none))) (evCons (evOp fAdd (evOp fAdd (evSl (evVar 6) (evPart none) (evPart (some (evVar 7)))) (evC (.str ("\n" : Str)))) (evSl (evVar 6) (evPart (some (evVar 7))) (evPart none))) (evCons (evOp fAdd (evVar 3) (evVar 6)) (evCons (evOp fAdd (evVar 6) (evVar 3)) (evCons (evC (.str ("" : Str))) evNil))))))))
  (svSeq (svFor (evIt (evOp fAdd (evVar 9) (evSl (evLst (evCons (evOp fMul (evVar 6) (evC (.int 40))) (evCons (evOp fMul (evVar 6) (evOp fDiv (evC (.int 120000)) (evBl fMax2 (evConsV (evC (.int 1)) (evConsV (evBl fLen (evConsV (evVar 6) evNilV)) evNilV))))) evNil))) (evPart none) (evPart (some (evOp fAdd (evC (.int 1)) (evBl fInt (evConsV (evVar 8) evNilV)))))))) (gvName 10)
  (svIf (mNot (evT (evCall f__law_right [] (evCons (evVar 10) (evCons (evVar 3) evNil))))) (svRet (evC (.bl false))) svSkip))
  (svFor (evIt (evLst (evCons (evC .non) (evCons (evC (.int 5)) (evCons (evC (.bl true)) (evCons (evLst (evCons (evSl (evVar 6) (evPart none) (evPart (some (evC (.int 99))))) evNil)) (evCons (evTup (evCons (evSl (evVar 6) (evPart none) (evPart (some (evC (.int 99))))) evNil)) (evCons (pure (.fr (.dk []))) evNil)))))))) (gvName 11)
  (svIf (mOr (evB (evOp fIsnt (evCall f_split_words [(.str " ")] (evCons (evVar 11) evNil)) (evC .non))) (evB (evOp fIsnt (evCallK f_split_words g_split_words_0_text_separator 0 2 [] evNil (evCons (evVar 11) (evCons (evVar 3) evNil))) (evC .non)))) (svRet (evC (.bl false))) svSkip)))))))))))
  (svRet (evC (.bl true)))))
/-! keyword orders -/
theorem g_split_words_0_text_separator_rel {vs mz zs : List V} {us mv ws : List Value} (h1 : Vals vs us) (h2 : Vals mz mv) (h3 : Vals zs ws) : Vals (g_split_words_0_text_separator vs mz zs) (g_split_words_0_text_separator us mv ws) := perm_vals (h1.append (h2.append h3)) _
theorem g_split_words_0_text_separator_dat {K : PySem.W.Frag} (al : List Addr) (F : Hp) (ds es : List D) (vs zs : List V) (h1 : DatL K al F ds vs) (h3 : DatL K al F es zs) : DatL K al F (g_split_words_0_text_separator ds ([] : List D) es) (g_split_words_0_text_separator vs (([] : List D).map D.v0) zs) := perm_dat (h1.app ((flat_dat rfl).app h3)) _
theorem g_split_words_1_separator_rel {vs mz zs : List V} {us mv ws : List Value} (h1 : Vals vs us) (h2 : Vals mz mv) (h3 : Vals zs ws) : Vals (g_split_words_1_separator vs mz zs) (g_split_words_1_separator us mv ws) := perm_vals (h1.append (h2.append h3)) _
theorem g_split_words_1_separator_dat {K : PySem.W.Frag} (al : List Addr) (F : Hp) (ds es : List D) (vs zs : List V) (h1 : DatL K al F ds vs) (h3 : DatL K al F es zs) : DatL K al F (g_split_words_1_separator ds ([] : List D) es) (g_split_words_1_separator vs (([] : List D).map D.v0) zs) := perm_dat (h1.app ((flat_dat rfl).app h3)) _
/-! the text -/
def top (i : Nat) : Stmt := PySem.Challenge.pw_rolereach_k04_words_of_texts.main.body.getD i (.Pass ⟨0, 0, 0, 0⟩)
abbrev s__law_box : Stmt := top 4
def d__law_box : He.DefD := ⟨("_law_box", none), "_law_box", "_law_box", defArgs s__law_box, defBody s__law_box, defScope s__law_box, [], []⟩
abbrev s__law_cell : Stmt := top 3
def d__law_cell : He.DefD := ⟨("_law_cell", none), "_law_cell", "_law_cell", defArgs s__law_cell, defBody s__law_cell, defScope s__law_cell, [], []⟩
abbrev s__law_due : Stmt := top 7
def d__law_due : He.DefD := ⟨("_law_due", none), "_law_due", "_law_due", defArgs s__law_due, defBody s__law_due, defScope s__law_due, [], []⟩
abbrev s_split_words : Stmt := top 1
def d_split_words : He.DefD := ⟨("split_words", none), "split_words", "split_words", defArgs s_split_words, defBody s_split_words, defScope s_split_words, [], [("separator", (.str " "))]⟩
abbrev s__law_right : Stmt := top 8
def d__law_right : He.DefD := ⟨("_law_right", none), "_law_right", "_law_right", defArgs s__law_right, defBody s__law_right, defScope s__law_right, [], []⟩
abbrev s__law_take : Stmt := top 5
def d__law_take : He.DefD := ⟨("_law_take", none), "_law_take", "_law_take", defArgs s__law_take, defBody s__law_take, defScope s__law_take, [], []⟩
abbrev s__law_word : Stmt := top 6
def d__law_word : He.DefD := ⟨("_law_word", none), "_law_word", "_law_word", defArgs s__law_word, defBody s__law_word, defScope s__law_word, [], []⟩
abbrev s_law : Stmt := top 9
def d_law : He.DefD := ⟨("law", none), "law", "law", defArgs s_law, defBody s_law, defScope s_law, [], []⟩
def fn : List He.DefD := [d__law_box, d__law_cell, d__law_due, d_split_words, d__law_right, d__law_take, d__law_word, d_law]
def gs : List Str := ["_law_box", "_law_cell", "_law_due", "split_words", "_law_right", "_law_take", "_law_word", "law"]
section
variable {P : Program} {w : World} {K : PySem.W.Frag} {mg : Str → Option Value} {base : Heap}
theorem sc__law_box : FnScope ["_law_cell_here"] ["_law_cell_here"] (defScope s__law_box) := ⟨rfl, rfl, rfl, by decide +kernel, rfl, by decide +kernel, by decide +kernel⟩
theorem o__law_box' (env : EnvV K mg fn gs) {fd : FuncData} (F : FunD K "_law_box" "_law_box" (defArgs s__law_box) (defBody s__law_box) (defScope s__law_box) [] [] (He.ga K "_law_box") fd) : FnOk P w K mg base (CV P w) 1 (He.ga K "_law_box") fd ["_law_cell_here"] (spOf K f__law_box) := by
  have SC := sc__law_box
  refine fn_ok F SC fun cdv A outer s H E hr bx => ?_
  exact ⟨_, (sss_one (ss_ret (se_lst (sa_cons (se_max env.f_max (sv_cons se_int (sv_cons (se_sub (se_var 0) (se_pow se_int se_int)) sv_nil))) (sa_cons (se_mod (se_var 0) se_int) (sa_cons se_int sa_nil))))))⟩
theorem o__law_box (env : EnvV K mg fn gs) : ∃ fd, FnOk P w K mg base (CV P w) 1 (He.ga K "_law_box") fd ["_law_cell_here"] (spOf K f__law_box) ∧ FunD K "_law_box" "_law_box" (defArgs s__law_box) (defBody s__law_box) (defScope s__law_box) [] [] (He.ga K "_law_box") fd := by
  obtain ⟨fd, F⟩ := env.defs 0 d__law_box rfl
  exact ⟨fd, o__law_box' env F, F⟩
theorem k__law_box_1 (env : EnvV K mg fn gs) : FnP P w K mg base 1 "_law_box" [] f__law_box := by
  obtain ⟨fd, h, F⟩ := o__law_box (P := P) (w := w) (base := base) env
  exact ⟨_, fd, _, [], h, env.at_ 0, F.kp, F.bindsN fun _ _ _ _ _ _ us hl => match us, hl with | [_], _ => rfl, .nil, rfl⟩
theorem sc__law_cell : FnScope ["_law_script", "_law_k"] ["_law_script", "_law_k"] (defScope s__law_cell) := ⟨rfl, rfl, rfl, by decide +kernel, rfl, by decide +kernel, by decide +kernel⟩
theorem o__law_cell' (env : EnvV K mg fn gs) {fd : FuncData} (F : FunD K "_law_cell" "_law_cell" (defArgs s__law_cell) (defBody s__law_cell) (defScope s__law_cell) [] [] (He.ga K "_law_cell") fd) : FnOk P w K mg base (CV P w) 1 (He.ga K "_law_cell") fd ["_law_script", "_law_k"] (spOf K f__law_cell) := by
  have SC := sc__law_cell
  refine fn_ok F SC fun cdv A outer s H E hr bx => ?_
  exact ⟨_, (sss_one (ss_ret (se_if (st_lt (se_var 1) (se_len env.f_len (sv_cons (se_var 0) sv_nil))) (se_ix (room1 hr) (se_var 0) (se_var 1)) (se_add (se_mul se_int (se_var 1)) se_int))))⟩
theorem o__law_cell (env : EnvV K mg fn gs) : ∃ fd, FnOk P w K mg base (CV P w) 1 (He.ga K "_law_cell") fd ["_law_script", "_law_k"] (spOf K f__law_cell) ∧ FunD K "_law_cell" "_law_cell" (defArgs s__law_cell) (defBody s__law_cell) (defScope s__law_cell) [] [] (He.ga K "_law_cell") fd := by
  obtain ⟨fd, F⟩ := env.defs 1 d__law_cell rfl
  exact ⟨fd, o__law_cell' env F, F⟩
theorem k__law_cell_2 (env : EnvV K mg fn gs) : FnP P w K mg base 1 "_law_cell" [] f__law_cell := by
  obtain ⟨fd, h, F⟩ := o__law_cell (P := P) (w := w) (base := base) env
  exact ⟨_, fd, _, [], h, env.at_ 1, F.kp, F.bindsN fun _ _ _ _ _ _ us hl => match us, hl with | [_, _], _ => rfl, .nil, rfl⟩
theorem sc__law_due : FnScope ["_law_line", "_law_mark", "_law_cuts", "_law_found", "_law_k", "_law_sign", "_law_one", "_law_other"] ["_law_line", "_law_mark"] (defScope s__law_due) := ⟨rfl, rfl, rfl, by decide +kernel, rfl, by decide +kernel, by decide +kernel⟩
theorem o__law_due' (env : EnvV K mg fn gs) {fd : FuncData} (F : FunD K "_law_due" "_law_due" (defArgs s__law_due) (defBody s__law_due) (defScope s__law_due) [] [] (He.ga K "_law_due") fd) : FnOk P w K mg base (CV P w) 1 (He.ga K "_law_due") fd ["_law_line", "_law_mark"] (spOf K f__law_due) := by
  have SC := sc__law_due
  refine fn_ok F SC fun cdv A outer s H E hr bx => ?_
  exact ⟨_, (sss_cons (ss_if (SW.st (sw_or (st_in hr.units se_str (se_var 0)) (sw_or1 (st_eq hr.units (se_var 0) se_str)))) (sss_one (ss_ret se_non)) sss_nil) (sss_cons (ss_how .own 2 (se_add (se_add (se_lst (sa_cons (se_neg se_int) sa_nil)) (se_comp [("_law_k", 4), ("_law_sign", 5)] SC.nd (si_enum (sa_cons (se_var 0) sa_nil) rfl env.f_enumerate) (fun _ _ _ _ _ => (sg_tup 2 (sgs_cons (sg_name 4 SC.nd) (sgs_cons (sg_name 5 SC.nd) sgs_nil)))) (fun _ _ _ _ _ => (sts_one (st_eq hr.units (se_var 5) (se_var 1)))) (fun _ _ _ _ _ => (se_var 4)))) (se_lst (sa_cons (se_len env.f_len (sv_cons (se_var 0) sv_nil)) sa_nil))) SC.nd) (sss_cons (ss_comp .own 3 [("_law_one", 6), ("_law_other", 7)] SC.nd (si_zip (sa_cons (se_var 2) (sa_cons (se_slice (se_var 2) (so_some se_int) so_none) sa_nil)) rfl env.f_zip) (fun _ _ _ _ _ => (sg_tup 2 (sgs_cons (sg_name 6 SC.nd) (sgs_cons (sg_name 7 SC.nd) sgs_nil)))) (fun _ _ _ _ _ => sts_nil) (fun _ _ _ _ _ => (se_slice (se_var 0) (so_some (se_add (se_var 6) se_int)) (so_some (se_var 7))))) (sss_one (ss_ret (se_if (st_notin hr.units se_str (se_var 3)) (se_var 3) se_non))))))⟩
theorem o__law_due (env : EnvV K mg fn gs) : ∃ fd, FnOk P w K mg base (CV P w) 1 (He.ga K "_law_due") fd ["_law_line", "_law_mark"] (spOf K f__law_due) ∧ FunD K "_law_due" "_law_due" (defArgs s__law_due) (defBody s__law_due) (defScope s__law_due) [] [] (He.ga K "_law_due") fd := by
  obtain ⟨fd, F⟩ := env.defs 2 d__law_due rfl
  exact ⟨fd, o__law_due' env F, F⟩
theorem k__law_due_2 (env : EnvV K mg fn gs) : FnP P w K mg base 1 "_law_due" [] f__law_due := by
  obtain ⟨fd, h, F⟩ := o__law_due (P := P) (w := w) (base := base) env
  exact ⟨_, fd, _, [], h, env.at_ 2, F.kp, F.bindsN fun _ _ _ _ _ _ us hl => match us, hl with | [_, _], _ => rfl, .nil, rfl⟩
theorem sc_split_words : FnScope ["text", "separator", "words"] ["text", "separator"] (defScope s_split_words) := ⟨rfl, rfl, rfl, by decide +kernel, rfl, by decide +kernel, by decide +kernel⟩
theorem o_split_words' (env : EnvV K mg fn gs) {fd : FuncData} (F : FunD K "split_words" "split_words" (defArgs s_split_words) (defBody s_split_words) (defScope s_split_words) [] [("separator", (.str " "))] (He.ga K "split_words") fd) : FnOk P w K mg base (CV P w) 1 (He.ga K "split_words") fd ["text", "separator"] (spOf K f_split_words) := by
  have SC := sc_split_words
  refine fn_ok F SC fun cdv A outer s H E hr bx => ?_
  exact ⟨_, (sss_cons (ss_if (SW.st (sw_or (st_not (st_val (se_isi env.f_isinstance (sv_cons (se_var 0) (sv_cons (se_tyv PyProof.Rows.boot_str env.f_str) sv_nil))))) (sw_or1 (st_in hr.units se_str (se_var 0))))) (sss_one (ss_ret se_non)) sss_nil) (sss_cons (ss_how .own 2 (se_split (se_var 0) (se_var 1)) SC.nd) (sss_one (ss_ret (se_if (st_notin hr.units se_str (se_var 2)) (se_var 2) se_non)))))⟩
theorem o_split_words (env : EnvV K mg fn gs) : ∃ fd, FnOk P w K mg base (CV P w) 1 (He.ga K "split_words") fd ["text", "separator"] (spOf K f_split_words) ∧ FunD K "split_words" "split_words" (defArgs s_split_words) (defBody s_split_words) (defScope s_split_words) [] [("separator", (.str " "))] (He.ga K "split_words") fd := by
  obtain ⟨fd, F⟩ := env.defs 3 d_split_words rfl
  exact ⟨fd, o_split_words' env F, F⟩
theorem k_split_words_0_text_separator (env : EnvV K mg fn gs) : FnK P w K mg base 1 "split_words" 0 ["text", "separator"] g_split_words_0_text_separator [] f_split_words := by
  obtain ⟨fd, h, F⟩ := o_split_words (P := P) (w := w) (base := base) env
  obtain ⟨mv, hb⟩ := F.kbinds0 (ps := ["text", "separator"]) 0 ["text", "separator"] [] g_split_words_0_text_separator (by simp) (by simp) g_split_words_0_text_separator_rel fun D doc pm an cdv ct us mv ws h1 h2 h3 => match us, mv, ws, h1, h2, h3 with | [], [], [_, _], _, _, _ => rfl
  exact ⟨_, fd, _, mv, h, env.at_ 3, F.kp, hb, g_split_words_0_text_separator_dat⟩
theorem k_split_words_1 (env : EnvV K mg fn gs) : FnP P w K mg base 1 "split_words" [(.str " ")] f_split_words := by
  obtain ⟨fd, h, F⟩ := o_split_words (P := P) (w := w) (base := base) env
  obtain ⟨ds, hv, hb⟩ := F.binds0 (ps := ["text", "separator"]) 1 (by simp) rfl fun D doc pm an cdv ct us ks h1 h2 => match us, ks, h1, h2 with | [_], [_], _, _ => ⟨_, _, _, _, _, _, rfl, rfl, rfl⟩
  exact ⟨_, fd, _, ds, h, env.at_ 3, F.kp, hb, hv, rfl⟩
theorem k_split_words_1_separator (env : EnvV K mg fn gs) : FnK P w K mg base 1 "split_words" 1 ["separator"] g_split_words_1_separator [] f_split_words := by
  obtain ⟨fd, h, F⟩ := o_split_words (P := P) (w := w) (base := base) env
  obtain ⟨mv, hb⟩ := F.kbinds0 (ps := ["text", "separator"]) 1 ["separator"] [] g_split_words_1_separator (by simp) (by simp) g_split_words_1_separator_rel fun D doc pm an cdv ct us mv ws h1 h2 h3 => match us, mv, ws, h1, h2, h3 with | [_], [], [_], _, _, _ => rfl
  exact ⟨_, fd, _, mv, h, env.at_ 3, F.kp, hb, g_split_words_1_separator_dat⟩
theorem sc__law_right : FnScope ["_law_line", "_law_mark", "_law_turn", "_law_found"] ["_law_line", "_law_mark"] (defScope s__law_right) := ⟨rfl, rfl, rfl, by decide +kernel, rfl, by decide +kernel, by decide +kernel⟩
theorem o__law_right' (env : EnvV K mg fn gs) {fd : FuncData} (F : FunD K "_law_right" "_law_right" (defArgs s__law_right) (defBody s__law_right) (defScope s__law_right) [] [] (He.ga K "_law_right") fd) : FnOk P w K mg base (CV P w) 2 (He.ga K "_law_right") fd ["_law_line", "_law_mark"] (spOf K f__law_right) := by
  have h__law_due_2 := (k__law_due_2 (P := P) (w := w) (base := base) env).mono (k := 1) (by decide)
  have h_split_words_1 := (k_split_words_1 (P := P) (w := w) (base := base) env).mono (k := 1) (by decide)
  have h_split_words_1_separator := (k_split_words_1_separator (P := P) (w := w) (base := base) env).mono (k := 1) (by decide)
  have SC := sc__law_right
  refine fn_ok F SC fun cdv A outer s H E hr bx => ?_
  exact ⟨_, (sss_cons (ss_for (si_range1 (sa_cons se_int sa_nil) rfl env.f_range) (sg_name 2 SC.nd) (sss_cons (ss_how .own 3 (se_callK h_split_words_1_separator hr bx.at_ (sa_cons (se_var 0) sa_nil) (sk_cons (se_var 1) sk_nil)) SC.nd) (sss_cons (ss_if (st_ne hr.units (se_var 3) (se_call h__law_due_2 hr bx.at_ (sa_cons (se_var 0) (sa_cons (se_var 1) sa_nil)))) (sss_one (ss_ret se_bl)) sss_nil) (sss_one (ss_if (st_isnt (se_var 3) se_non) (sss_one (ss_expr (se_append (se_var 3) (sa_cons se_str sa_nil)))) sss_nil)))) bx.own) (sss_one (ss_ret (se_or (se_ne hr.units (se_var 1) se_str) (se_one (se_eq hr.units (se_call h_split_words_1 hr bx.at_ (sa_cons (se_var 0) sa_nil)) (se_call h__law_due_2 hr bx.at_ (sa_cons (se_var 0) (sa_cons (se_var 1) sa_nil)))))))))⟩
theorem o__law_right (env : EnvV K mg fn gs) : ∃ fd, FnOk P w K mg base (CV P w) 2 (He.ga K "_law_right") fd ["_law_line", "_law_mark"] (spOf K f__law_right) ∧ FunD K "_law_right" "_law_right" (defArgs s__law_right) (defBody s__law_right) (defScope s__law_right) [] [] (He.ga K "_law_right") fd := by
  obtain ⟨fd, F⟩ := env.defs 4 d__law_right rfl
  exact ⟨fd, o__law_right' env F, F⟩
theorem k__law_right_2 (env : EnvV K mg fn gs) : FnP P w K mg base 2 "_law_right" [] f__law_right := by
  obtain ⟨fd, h, F⟩ := o__law_right (P := P) (w := w) (base := base) env
  exact ⟨_, fd, _, [], h, env.at_ 4, F.kp, F.bindsN fun _ _ _ _ _ _ us hl => match us, hl with | [_, _], _ => rfl, .nil, rfl⟩
theorem sc__law_take : FnScope ["_law_box_here", "_law_many", "_law_digit", "_law_number"] ["_law_box_here", "_law_many"] (defScope s__law_take) := ⟨rfl, rfl, rfl, by decide +kernel, rfl, by decide +kernel, by decide +kernel⟩
theorem o__law_take' (env : EnvV K mg fn gs) {fd : FuncData} (F : FunD K "_law_take" "_law_take" (defArgs s__law_take) (defBody s__law_take) (defScope s__law_take) [] [] (He.ga K "_law_take") fd) : FnOk P w K mg base (CV P w) 1 (He.ga K "_law_take") fd ["_law_box_here", "_law_many"] (spOf K f__law_take) := by
  have SC := sc__law_take
  refine fn_ok F SC fun cdv A outer s H E hr bx => ?_
  exact ⟨_, (sss_cons (ss_if (st_gt (se_ix (room1 hr) (se_var 0) se_int) se_int) (sss_cons (ss_how .own 2 (se_mod (se_ix (room1 hr) (se_var 0) se_int) (se_var 1)) SC.nd) (sss_cons (ss_store (room1 hr) (se_div (se_ix (room1 hr) (se_var 0) se_int) (se_var 1)) (se_var 0) se_int) (sss_one (ss_ret (se_var 2))))) sss_nil) (sss_cons (ss_store (room1 hr) (se_add (se_ix (room1 hr) (se_var 0) se_int) se_int) (se_var 0) se_int) (sss_cons (ss_how .own 3 (se_mod (se_pow (se_add (se_add (se_ix (room1 hr) (se_var 0) se_int) (se_mul se_int (se_ix (room1 hr) (se_var 0) se_int))) se_int) se_int) se_int) SC.nd) (sss_cons (ss_how .own 3 (se_mod (se_pow (se_add (se_var 3) (se_mul se_int (se_ix (room1 hr) (se_var 0) se_int))) se_int) se_int) SC.nd) (sss_one (ss_ret (se_mod (se_div (se_var 3) se_int) (se_var 1))))))))⟩
theorem o__law_take (env : EnvV K mg fn gs) : ∃ fd, FnOk P w K mg base (CV P w) 1 (He.ga K "_law_take") fd ["_law_box_here", "_law_many"] (spOf K f__law_take) ∧ FunD K "_law_take" "_law_take" (defArgs s__law_take) (defBody s__law_take) (defScope s__law_take) [] [] (He.ga K "_law_take") fd := by
  obtain ⟨fd, F⟩ := env.defs 5 d__law_take rfl
  exact ⟨fd, o__law_take' env F, F⟩
theorem k__law_take_2 (env : EnvV K mg fn gs) : FnP P w K mg base 1 "_law_take" [] f__law_take := by
  obtain ⟨fd, h, F⟩ := o__law_take (P := P) (w := w) (base := base) env
  exact ⟨_, fd, _, [], h, env.at_ 5, F.kp, F.bindsN fun _ _ _ _ _ _ us hl => match us, hl with | [_, _], _ => rfl, .nil, rfl⟩
theorem sc__law_word : FnScope ["_law_box_here", "_law_mark", "_law_signs", "_law_word_here", "_law_k", "_law_sign"] ["_law_box_here", "_law_mark"] (defScope s__law_word) := ⟨rfl, rfl, rfl, by decide +kernel, rfl, by decide +kernel, by decide +kernel⟩
theorem o__law_word' (env : EnvV K mg fn gs) {fd : FuncData} (F : FunD K "_law_word" "_law_word" (defArgs s__law_word) (defBody s__law_word) (defScope s__law_word) [] [] (He.ga K "_law_word") fd) : FnOk P w K mg base (CV P w) 2 (He.ga K "_law_word") fd ["_law_box_here", "_law_mark"] (spOf K f__law_word) := by
  have h__law_take_2 := (k__law_take_2 (P := P) (w := w) (base := base) env).mono (k := 1) (by decide)
  have SC := sc__law_word
  refine fn_ok F SC fun cdv A outer s H E hr bx => ?_
  exact ⟨_, (sss_cons (ss_how .own 2 (se_add se_str se_str) SC.nd) (sss_cons (ss_how .own 3 (se_join se_str (se_comp [("_law_k", 4)] SC.nd (si_range1 (sa_cons (se_add se_int (se_call h__law_take_2 hr bx.at_ (sa_cons (se_var 0) (sa_cons se_int sa_nil)))) sa_nil) rfl env.f_range) (fun _ _ _ _ _ => (sg_name 4 SC.nd)) (fun _ _ _ _ _ => sts_nil) (fun _ _ _ _ _ => (se_ix (room1 hr) (se_var 2) (se_call h__law_take_2 hr (fun _ => passAt VI.takes0 _) (sa_cons (se_var 0) (sa_cons se_int sa_nil))))))) SC.nd) (sss_cons (ss_how .own 3 (se_join se_str (se_comp [("_law_sign", 5)] SC.nd (si_any (se_var 3)) (fun _ _ _ _ _ => (sg_name 5 SC.nd)) (fun _ _ _ _ _ => (sts_one (st_ne hr.units (se_var 5) (se_var 1)))) (fun _ _ _ _ _ => (se_var 5)))) SC.nd) (sss_one (ss_ret (se_if (st_ne hr.units (se_var 3) se_str) (se_var 3) (se_ix (room1 hr) (se_lst (sa_cons se_str (sa_cons se_str sa_nil))) (se_int1 env.f_int (sv_cons (se_eq hr.units (se_var 1) se_str) sv_nil)))))))))⟩
theorem o__law_word (env : EnvV K mg fn gs) : ∃ fd, FnOk P w K mg base (CV P w) 2 (He.ga K "_law_word") fd ["_law_box_here", "_law_mark"] (spOf K f__law_word) ∧ FunD K "_law_word" "_law_word" (defArgs s__law_word) (defBody s__law_word) (defScope s__law_word) [] [] (He.ga K "_law_word") fd := by
  obtain ⟨fd, F⟩ := env.defs 6 d__law_word rfl
  exact ⟨fd, o__law_word' env F, F⟩
theorem k__law_word_2 (env : EnvV K mg fn gs) : FnP P w K mg base 2 "_law_word" [] f__law_word := by
  obtain ⟨fd, h, F⟩ := o__law_word (P := P) (w := w) (base := base) env
  exact ⟨_, fd, _, [], h, env.at_ 6, F.kp, F.bindsN fun _ _ _ _ _ _ us hl => match us, hl with | [_, _], _ => rfl, .nil, rfl⟩
theorem sc_law : FnScope ["_law_script", "_law_k", "_law_box_here", "_law_mark", "_law_many", "_law_words", "_law_line", "_law_at", "_law_long", "_law_rows", "_law_one", "_law_thing", "_law_turn"] ["_law_script"] (defScope s_law) := ⟨rfl, rfl, rfl, by decide +kernel, rfl, by decide +kernel, by decide +kernel⟩
theorem o_law' (env : EnvV K mg fn gs) {fd : FuncData} (F : FunD K "law" "law" (defArgs s_law) (defBody s_law) (defScope s_law) [] [] (He.ga K "law") fd) : FnOk P w K mg base (CV P w) 3 (He.ga K "law") fd ["_law_script"] (spOf K f_law) := by
  have h__law_box_1 := (k__law_box_1 (P := P) (w := w) (base := base) env).mono (k := 2) (by decide)
  have h__law_cell_2 := (k__law_cell_2 (P := P) (w := w) (base := base) env).mono (k := 2) (by decide)
  have h__law_right_2 := (k__law_right_2 (P := P) (w := w) (base := base) env).mono (k := 2) (by decide)
  have h__law_take_2 := (k__law_take_2 (P := P) (w := w) (base := base) env).mono (k := 2) (by decide)
  have h__law_word_2 := (k__law_word_2 (P := P) (w := w) (base := base) env).mono (k := 2) (by decide)
  have h_split_words_0_text_separator := (k_split_words_0_text_separator (P := P) (w := w) (base := base) env).mono (k := 2) (by decide)
  have h_split_words_1 := (k_split_words_1 (P := P) (w := w) (base := base) env).mono (k := 2) (by decide)
  have SC := sc_law
  refine fn_ok F SC fun cdv A outer s H E hr bx => ?_
  exact ⟨_, (sss_cons (ss_for (si_range1 (sa_cons (se_max env.f_max (sv_cons se_int (sv_cons (se_min env.f_min (sv_cons se_int (sv_cons (se_len env.f_len (sv_cons (se_var 0) sv_nil)) sv_nil))) sv_nil))) sa_nil) rfl env.f_range) (sg_name 1 SC.nd) (sss_cons (ss_how .cell 2 (se_call h__law_box_1 hr bx.at_ (sa_cons (se_call h__law_cell_2 hr bx.at_ (sa_cons (se_var 0) (sa_cons (se_var 1) sa_nil))) sa_nil)) SC.nd) (sss_cons (ss_how .own 3 (se_ix (room1 hr) (se_lst (sa_cons se_str (sa_cons se_str (sa_cons se_str (sa_cons se_str (sa_cons se_str (sa_cons se_str (sa_cons se_str sa_nil)))))))) (se_call h__law_take_2 hr bx.at_ (sa_cons (se_var 2) (sa_cons se_int sa_nil)))) SC.nd) (sss_cons (ss_how .own 4 (se_ix (room1 hr) (se_lst (sa_cons (se_add se_int (se_call h__law_take_2 hr bx.at_ (sa_cons (se_var 2) (sa_cons se_int sa_nil)))) (sa_cons (se_call h__law_take_2 hr bx.at_ (sa_cons (se_var 2) (sa_cons se_int sa_nil))) sa_nil))) (se_call h__law_take_2 hr bx.at_ (sa_cons (se_var 2) (sa_cons se_int sa_nil)))) SC.nd) (sss_cons (ss_comp .own 5 [("_law_turn", 12)] SC.nd (si_range1 (sa_cons (se_var 4) sa_nil) rfl env.f_range) (fun _ _ _ _ _ => (sg_name 12 SC.nd)) (fun _ _ _ _ _ => sts_nil) (fun _ _ _ _ _ => (se_call h__law_word_2 hr (fun _ => passAt VI.takes0 _) (sa_cons (se_var 2) (sa_cons (se_var 3) sa_nil))))) (sss_cons (ss_how .own 6 (se_join (se_var 3) (se_var 5)) SC.nd) (sss_cons (ss_par 7 8 (sa_cons (se_call h__law_take_2 hr bx.at_ (sa_cons (se_var 2) (sa_cons (se_add (se_len env.f_len (sv_cons (se_var 6) sv_nil)) se_int) sa_nil))) (sa_cons (se_and (se_eq hr.units (se_var 1) se_int) (se_one (se_eq hr.units (se_call h__law_take_2 hr bx.at_ (sa_cons (se_var 2) (sa_cons se_int sa_nil))) se_int))) sa_nil)) SC.nd) (sss_cons (ss_how .own 9 (se_lst (sa_cons (se_var 6) (sa_cons (se_add (se_add (se_slice (se_var 6) so_none (so_some (se_var 7))) (se_var 3)) (se_slice (se_var 6) (so_some (se_var 7)) so_none)) (sa_cons (se_add (se_add (se_slice (se_var 6) so_none (so_some (se_var 7))) se_str) (se_slice (se_var 6) (so_some (se_var 7)) so_none)) (sa_cons (se_add (se_var 3) (se_var 6)) (sa_cons (se_add (se_var 6) (se_var 3)) (sa_cons se_str sa_nil))))))) SC.nd) (sss_cons (ss_for (si_any (se_add (se_var 9) (se_slice (se_lst (sa_cons (se_mul (se_var 6) se_int) (sa_cons (se_mul (se_var 6) (se_div se_int (se_max env.f_max (sv_cons se_int (sv_cons (se_len env.f_len (sv_cons (se_var 6) sv_nil)) sv_nil))))) sa_nil))) so_none (so_some (se_add se_int (se_int1 env.f_int (sv_cons (se_var 8) sv_nil))))))) (sg_name 10 SC.nd) (sss_one (ss_if (st_not (st_val (se_call h__law_right_2 hr bx.at_ (sa_cons (se_var 10) (sa_cons (se_var 3) sa_nil))))) (sss_one (ss_ret se_bl)) sss_nil)) bx.own) (sss_one (ss_for (si_any (se_lst (sa_cons se_non (sa_cons se_int (sa_cons se_bl (sa_cons (se_lst (sa_cons (se_slice (se_var 6) so_none (so_some se_int)) sa_nil)) (sa_cons (se_tup (sa_cons (se_slice (se_var 6) so_none (so_some se_int)) sa_nil)) (sa_cons se_dnewK sa_nil)))))))) (sg_name 11 SC.nd) (sss_one (ss_if (SW.st (sw_or (st_isnt (se_call h_split_words_1 hr bx.at_ (sa_cons (se_var 11) sa_nil)) se_non) (sw_or1 (st_isnt (se_callK0 h_split_words_0_text_separator hr bx.at_ (sk_cons (se_var 11) (sk_cons (se_var 3) sk_nil))) se_non)))) (sss_one (ss_ret se_bl)) sss_nil)) bx.own)))))))))) bx.own) (sss_one (ss_ret se_bl)))⟩
theorem o_law (env : EnvV K mg fn gs) : ∃ fd, FnOk P w K mg base (CV P w) 3 (He.ga K "law") fd ["_law_script"] (spOf K f_law) ∧ FunD K "law" "law" (defArgs s_law) (defBody s_law) (defScope s_law) [] [] (He.ga K "law") fd := by
  obtain ⟨fd, F⟩ := env.defs 7 d_law rfl
  exact ⟨fd, o_law' env F, F⟩
end
abbrev lawLevel : Nat := 3
abbrev lawIx : Nat := 7
end K04
end
section
set_option Elab.async false
set_option linter.all false
set_option maxRecDepth 100000
set_option maxHeartbeats 1000000
/-! M04: the plain law of k04. -/
namespace K04
open PySem PySem.Spec L2 VI
def BxO (N : Int) (ob : Ob) : Prop := ∃ a y n, ob = .lst [.int a, .int y, .int n] ∧ 0 ≤ y ∧ y < 2147483648 ∧ 0 ≤ n ∧ n ≤ N
theorem BxO.mono {N M : Int} {ob : Ob} (h : BxO N ob) (hl : N ≤ M) : BxO M ob := by
  obtain ⟨a, y, n, e, h1, h2, h3, h4⟩ := h
  exact ⟨a, y, n, e, h1, h2, h3, by omega⟩
theorem take_ok {b : Nat} {m N : Int} {st : List Ob} {ob : Ob} (h : st[b]? = some ob) (hb : BxO N ob) (hN : N < 1000000) (hm : 0 < m) (hm2 : m < 1073741824) (Q : Va → List Ob → Prop) (hq : ∀ r ob', 0 ≤ r → r < m → BxO (N + 1) ob' → Q (.im (.int r)) (st.set b ob')) : WpF (f__law_take [.ref b, .int m] st) Q fun _ _ => False := by
  obtain ⟨a, y, n, rfl, h1, h2, h3, h4⟩ := hb
  by_cases ha : 0 < a
  · have q := hq (a % m) (.lst [.int (a / m), .int y, .int n]) (Int.emod_nonneg _ (by omega)) (Int.emod_lt_of_pos _ hm) ⟨_, _, _, rfl, h1, h2, h3, by omega⟩
    simp [f__law_take, h, atI, ixN, ha, hm, hm2]
    exact q
  · have q := fun r h5 h6 => hq r (.lst [.int a, .int y, .int (n + 1)]) h5 h6 ⟨_, _, _, rfl, h1, h2, by omega, by omega⟩
    simp [f__law_take, h, atI, ixN, ha, hm, hm2]
    have e1 : 0 ≤ (y + 6143 * (n + 1) + 445) ^ 5 % 2147483647 := Int.emod_nonneg _ (by decide)
    have e2 : (y + 6143 * (n + 1) + 445) ^ 5 % 2147483647 < 2147483647 := Int.emod_lt_of_pos _ (by decide)
    generalize (y + 6143 * (n + 1) + 445) ^ 5 % 2147483647 = z at *
    exact ⟨by omega, by omega, q _ (Int.emod_nonneg _ (by omega)) (Int.emod_lt_of_pos _ hm)⟩
theorem box_ok {i : Int} {st : List Ob} (Q : Va → List Ob → Prop) (hq : ∀ ob, BxO 0 ob → Q (.fr ob) st) : WpF (f__law_box [.int i] st) Q fun _ _ => False := by
  simp [f__law_box, fMax2, sizeLine_eq]
  exact hq _ ⟨_, _, _, rfl, Int.emod_nonneg _ (by decide), by have := Int.emod_lt_of_pos i (show (0 : Int) < 2147483629 by decide); omega, by omega, by omega⟩
theorem cell_ok {ns : List Int} {k : Int} {st : List Ob} (hk : 0 ≤ k) (hk2 : k < 1000) (Q : Va → List Ob → Prop) (hq : ∀ v, Q (.im (.int v)) st) : WpF (f__law_cell [.lz (ns.map .int), .int k] st) Q fun _ _ => False := by
  simp [f__law_cell, fLen]
  by_cases h : k < ns.length
  · rw [if_pos h, atI_of hk (by simpa using h)]
    simp
    exact hq _
  · rw [if_neg h]
    exact hq _

/-! ### texts -/
def ch (c : Nat) : Str := ⟨#[c]⟩
def pieces (z : Str) (c : Nat) : List Str := (cutC c [] z.cps.toList).map fun l => ⟨l.toArray⟩
theorem split_pieces {z : Str} {c : Nat} (h : c < 256) : Txt.split z (ch c) = pieces z c := by
  refine TL.map_tl_inj ?_
  rw [TL.split_spl z (ch c) (by simp [TL.tl, ch]) (TL.kind_ok (by simp [ch, h]))]
  show TL.spl [c] 0 [] z.cps.toList = _
  rw [spl_cut]
  simp [pieces, TL.tl, List.map_map, Function.comp_def]
/-- what both tell -/
def resV (z : Str) (c : Nat) : Va := if 10 ∈ z.cps.toList then .im .non else if (⟨#[]⟩ : Str) ∈ pieces z c then .im .non else .fr (.lst ((pieces z c).map .str))
theorem nl_in (z : Str) : fIn (.str (Str.ofString "\n")) (.str z) = some (.im (.bl (decide (10 ∈ z.cps.toList)))) := by
  have e : Str.ofString "\n" = ⟨#[10]⟩ := by decide +kernel
  rw [e]
  show some (Va.im (.bl (subS ⟨#[10]⟩ z))) = _
  unfold subS
  rw [PySem.StrLaws.found_one]
theorem emp_eq : Str.ofString "" = ⟨#[]⟩ := by decide +kernel
theorem emp_notin (zs : List Str) : fNotIn (.str (Str.ofString "")) (.lst (zs.map .str)) = some (.im (.bl (!decide ((⟨#[]⟩ : Str) ∈ zs)))) := by
  rw [emp_eq]
  have e1 : bas 8 (D.str ⟨#[]⟩) = true := rfl
  have e2 : (zs.map D.str).all (bas 8) = true := by simp [bas]
  have e3 : inL (.str ⟨#[]⟩) (zs.map D.str) = decide ((⟨#[]⟩ : Str) ∈ zs) := by
    rw [Bool.eq_iff_iff]
    simp [inL, eqb, List.any_eq_true]
  unfold fNotIn inD
  simp only [e1, e2, e3, Bool.and_true, if_true]
  rfl
theorem str_isi (z : Str) : fIsi [.str z, .ty "str"] = some (.im (.bl true)) := by simp [fIsi, tyN, isB]
theorem split_ok {z : Str} {c : Nat} {st : List Ob} (hz : z.length + 2 ≤ sizeLine) (hc : c < 256) (Q : Va → List Ob → Prop) (hq : Q (resV z c) st) : WpF (f_split_words [.str z, .str (ch c)] st) Q fun _ _ => False := by
  have e0 : ((ch c).length == 0) = false := rfl
  have e1 : fSplit z (.str (ch c)) = some (.fr (.lst ((pieces z c).map .str))) := by
    unfold fSplit
    simp only [e0, hz, and_self, if_true, split_pieces hc]
  unfold resV at hq
  simp [f_split_words, str_isi, tru, nl_in, e1]
  by_cases h : 10 ∈ z.cps.toList
  · have h' : 10 ∈ z.cps := by simpa using h
    simp [h'] at hq ⊢
    exact hq
  · have h' : 10 ∉ z.cps := by simpa using h
    simp only [h', if_false]
    rw [if_neg h] at hq
    simp [emp_notin]
    by_cases h2 : (⟨#[]⟩ : Str) ∈ pieces z c
    · rw [if_pos h2] at hq
      simp [h2]
      exact hq
    · rw [if_neg h2] at hq
      simp [h2, retV]
      exact hq

/-! ### due -/
/-- where c stands in L, from o on -/
def posN (c : Nat) : Nat → List Nat → List Nat
  | _, [] => []
  | o, d :: L => if d = c then o :: posN c (o + 1) L else posN c (o + 1) L
theorem posN_le (c : Nat) : ∀ (L : List Nat) (o : Nat), (posN c o L).length ≤ L.length
  | [], _ => Nat.le_refl _
  | d :: L, o => by
    unfold posN
    have := posN_le c L (o + 1)
    split <;> simp <;> omega
theorem posN_lt (c : Nat) : ∀ (L : List Nat) (o : Nat), ∀ p ∈ posN c o L, p < o + L.length
  | [], _, p, h => by simp [posN] at h
  | d :: L, o, p, h => by
    unfold posN at h
    have ih := posN_lt c L (o + 1)
    split at h
    · rcases List.mem_cons.mp h with e | h
      · subst e; simp
      · have := ih p h; simp; omega
    · have := ih p h; simp; omega
def fPos (c : Nat) : D → Option D
  | .tup [.int k, .str s] => if s = ch c then some (.int k) else none
  | _ => none
theorem enum_pos (c : Nat) : ∀ (L : List Nat) (o : Nat), ((List.range' o L.length).zipWith (fun (i : Nat) d => D.tup [.int i, d]) (L.map fun x => D.str ⟨#[x]⟩)).filterMap (fPos c) = (posN c o L).map fun (p : Nat) => D.int p
  | [], _ => rfl
  | d :: L, o => by
    have ih := enum_pos c L (o + 1)
    simp only [List.length_cons, List.range'_succ, List.map_cons, List.zipWith_cons_cons]
    unfold posN
    by_cases h : d = c
    · subst h
      have e : fPos d (D.tup [.int (o : Nat), .str ⟨#[d]⟩]) = some (.int (o : Nat)) := by simp [fPos, ch]
      rw [List.filterMap_cons_some e, if_pos rfl, ih]
      rfl
    · have e : fPos c (D.tup [.int (o : Nat), .str ⟨#[d]⟩]) = none := by simp [fPos, ch, h]
      rw [List.filterMap_cons_none e, if_neg h, ih]
theorem enumD_pos (c : Nat) (L : List Nat) : (enumD (L.map fun x => D.str ⟨#[x]⟩)).filterMap (fPos c) = (posN c 0 L).map fun (p : Nat) => D.int p := by
  rw [← enum_pos c L 0]
  unfold enumD
  rw [List.range_eq_range', List.length_map]
theorem mem_enumD {d : D} {ds : List D} (h : d ∈ enumD ds) : ∃ (i : Nat) (e : D), d = .tup [.int i, e] ∧ e ∈ ds := by
  obtain ⟨j, hj, e⟩ := List.getElem_of_mem h
  have hj2 : j < ds.length := by simpa [enumD] using hj
  simp only [enumD, List.getElem_zipWith, List.getElem_range] at e
  exact ⟨j, ds[j], e.symm, List.getElem_mem _⟩
/-- the pieces of W from a on, cut at qs -/
def sl (W : List Nat) : Nat → List Nat → List (List Nat)
  | _, [] => []
  | a, q :: qs => (W.drop a).take (q - a) :: sl W (q + 1) qs
theorem cut_sl (c : Nat) (W : List Nat) : ∀ (L : List Nat) (o a : Nat), W.drop o = L → a ≤ o → o + L.length = W.length → cutC c ((W.drop a).take (o - a)) L = sl W a (posN c o L ++ [W.length])
  | [], o, a, _, ha, hl => by
    simp at hl
    subst hl
    simp [cutC, posN, sl]
  | d :: L, o, a, hd, ha, hl => by
    simp at hl
    have hlt : o < W.length := by omega
    rw [List.drop_eq_getElem_cons hlt] at hd
    injection hd with h1 h2
    unfold cutC posN
    by_cases h : d = c
    · rw [if_pos h, if_pos h]
      show _ = (W.drop a).take (o - a) :: sl W (o + 1) (posN c (o + 1) L ++ [W.length])
      rw [← cut_sl c W L (o + 1) (o + 1) h2 (Nat.le_refl _) (by omega)]
      simp
    · rw [if_neg h, if_neg h]
      rw [← cut_sl c W L (o + 1) a h2 (by omega) (by omega)]
      congr 1
      have e : o + 1 - a = (o - a) + 1 := by omega
      rw [e, List.take_succ, List.getElem?_drop]
      have e2 : a + (o - a) = o := by omega
      rw [e2, List.getElem?_eq_getElem hlt, h1]
      rfl
def fCut (z : Str) : D → Option D
  | .tup [.int x, .int y] => some (.str (cutS z (some (x + 1)) (some y)))
  | _ => none
theorem cutS_nat (z : Str) (a q : Nat) (ha : a ≤ z.length) (hq : q ≤ z.length) : cutS z (some ((a : Int) - 1 + 1)) (some (q : Int)) = ⟨((z.cps.toList.drop a).take (q - a)).toArray⟩ := by
  have e : (a : Int) - 1 + 1 = (a : Int) := by omega
  rw [e]
  unfold cutS
  rw [HT.sIx_nat, HT.sIx_nat, Nat.min_eq_left ha, Nat.min_eq_left hq]
theorem zip_cut (z : Str) : ∀ (qs : List Nat) (a : Nat), a ≤ z.length → (∀ q ∈ qs, q ≤ z.length) → (∀ q ∈ qs.dropLast, q < z.length) →
    (zipD (D.int ((a : Int) - 1) :: qs.map fun (p : Nat) => D.int p) (qs.map fun (p : Nat) => D.int p)).filterMap (fCut z) = (sl z.cps.toList a qs).map fun l => D.str ⟨l.toArray⟩
  | [], _, _, _, _ => rfl
  | [q], a, ha, h1, _ => by
    have hq := h1 q (by simp)
    have e1 : fCut z (D.tup [.int ((a : Int) - 1), .int (q : Nat)]) = some (.str ⟨((z.cps.toList.drop a).take (q - a)).toArray⟩) := by
      simp only [fCut, cutS_nat z a q ha hq]
    simp only [List.map_cons, List.map_nil, zipD, List.zipWith_cons_cons, List.zipWith_nil_right]
    rw [List.filterMap_cons_some e1]
    rfl
  | q :: r :: qs, a, ha, h1, h2 => by
    have hq := h1 q (by simp)
    have hq2 := h2 q (by simp)
    have ih := zip_cut z (r :: qs) (q + 1) (by omega) (fun p hp => h1 p (List.mem_cons_of_mem _ hp)) (fun p hp => h2 p (by
      simp only [List.dropLast_cons₂]
      exact List.mem_cons_of_mem _ hp))
    have e : (((q + 1 : Nat) : Int) - 1) = (q : Int) := by omega
    rw [e] at ih
    simp only [List.map_cons, zipD, List.zipWith_cons_cons] at ih ⊢
    have e1 : fCut z (D.tup [.int ((a : Int) - 1), .int (q : Nat)]) = some (.str ⟨((z.cps.toList.drop a).take (q - a)).toArray⟩) := by
      simp only [fCut, cutS_nat z a q ha hq]
    rw [List.filterMap_cons_some e1, ih]
    rfl
/-- what the law's own cutting finds -/
theorem due_pieces (z : Str) (c : Nat) : (zipD (D.int (-1) :: (posN c 0 z.cps.toList ++ [z.length]).map fun (p : Nat) => D.int p) ((posN c 0 z.cps.toList ++ [z.length]).map fun (p : Nat) => D.int p)).filterMap (fCut z) = (pieces z c).map .str := by
  have hl : z.cps.toList.length = z.length := by simp [Str.length]
  have h := zip_cut z (posN c 0 z.cps.toList ++ [z.length]) 0 (Nat.zero_le _) (fun q hq => by
    rcases List.mem_append.mp hq with h | h
    · have := posN_lt c _ _ q h; omega
    · simp at h; omega) (fun q hq => by
    rw [List.dropLast_concat] at hq
    have := posN_lt c _ _ q hq; omega)
  have e : ((0 : Nat) : Int) - 1 = -1 := by decide
  rw [e] at h
  rw [h]
  have k := cut_sl c z.cps.toList z.cps.toList 0 0 rfl (Nat.le_refl _) (by omega)
  rw [hl] at k
  rw [← k]
  simp [pieces, List.map_map, Function.comp_def]
theorem mem_zipD {d : D} {xs ys : List D} (h : d ∈ zipD xs ys) : ∃ a b, d = .tup [a, b] ∧ a ∈ xs ∧ b ∈ ys := by
  obtain ⟨j, hj, e⟩ := List.getElem_of_mem h
  simp only [zipD, List.length_zipWith] at hj
  simp only [zipD, List.getElem_zipWith] at e
  exact ⟨_, _, e.symm, List.getElem_mem _, List.getElem_mem _⟩
theorem str_eq (x y : Str) : fEq (.str x) (.str y) = some (.im (.bl (decide (x = y)))) := by
  unfold fEq
  simp [bas, eqb]
  rfl
theorem due_ok {z : Str} {c : Nat} {st : List Ob} (hz : z.length + 2 ≤ sizeLine) (Q : Va → List Ob → Prop) (hq : Q (resV z c) st) : WpF (f__law_due [.str z, .str (ch c)] st) Q fun _ _ => False := by
  have hl : z.cps.toList.length = z.length := by simp [Str.length]
  have hz1 : z.length ≤ sizeLine := by omega
  unfold resV at hq
  simp only [f__law_due, wpf_fn, ws_seq, ws_if, wp_mOr, wp_B, wp_op, wp_c]
  simp [nl_in]
  by_cases h : 10 ∈ z.cps.toList
  · have h' : 10 ∈ z.cps := by simpa using h
    simp [h'] at hq ⊢
    exact hq
  · have h' : 10 ∉ z.cps := by simpa using h
    rw [if_neg h] at hq
    simp [h', emp_eq, str_eq]
    by_cases h0 : z = ⟨#[]⟩
    · subst h0
      have : (⟨#[]⟩ : Str) ∈ pieces ⟨#[]⟩ c := by simp [pieces, cutC]
      rw [if_pos this] at hq
      simp
      exact hq
    · simp [h0]
      have hs1 : (1 : Nat) ≤ sizeLine := by decide
      refine ⟨hs1, ?_⟩
      refine wp_comp_pure (fPos c) ?_
      simp [enum1, hz1]
      refine ⟨fun d hd => ?_, ?_, ?_⟩
      · obtain ⟨i, e, rfl, he⟩ := mem_enumD hd
        obtain ⟨x, hx, rfl⟩ := List.mem_map.mp he
        simp [gvTup, seqOf, gvCons, gvName, gvNil, W1, str_eq, fPos, ch]
      · simp [enumD]
        try exact hz1
      · have hp := posN_le c z.cps.toList 0
        rw [enumD_pos]
        simp [fLen, hz1]
        have hps : (posN c 0 z.cps.toList).length + 2 ≤ sizeLine := by omega
        have hcut : (List.map (fun (p : Nat) => D.int p) (posN c 0 z.cps.toList) ++ [D.int (z.length : Int)]) = (posN c 0 z.cps.toList ++ [z.length]).map fun (p : Nat) => D.int p := by simp
        refine ⟨by omega, by omega, by omega, ?_⟩
        rw [hcut]
        have hz2 := due_pieces z c
        have hql : ((posN c 0 z.cps.toList ++ [z.length]).map fun (p : Nat) => D.int p).length + 1 ≤ sizeLine := by simp; omega
        have hqi : ∀ d ∈ (posN c 0 z.cps.toList ++ [z.length]).map (fun (p : Nat) => D.int p), ∃ y : Int, d = .int y := fun d hd => by
          obtain ⟨p, _, e⟩ := List.mem_map.mp hd
          exact ⟨_, e.symm⟩
        generalize ((posN c 0 z.cps.toList ++ [z.length]).map fun (p : Nat) => D.int p) = ql at hz2 hql hqi ⊢
        refine wp_comp_pure (fCut z) ?_
        simp [fSl, cutD, HT.sIx, zip1, lOf, hz2, emp_notin, ← emp_eq]
        refine ⟨fun d hd => ?_, ?_, ?_⟩
        · obtain ⟨a, b, rfl, ha, hb⟩ := mem_zipD hd
          obtain ⟨y, rfl⟩ := hqi b hb
          have hx : ∃ x : Int, a = .int x := by
            rcases List.mem_cons.mp ha with e | e
            · exact ⟨_, e⟩
            · exact hqi a e
          obtain ⟨x, rfl⟩ := hx
          simp [gvTup, seqOf, gvCons, gvName, gvNil, W1, fSl, hz1, fCut, wipeS, wipeE]
        · simp [zipD]; omega
        · rw [emp_eq]
          by_cases h2 : (⟨#[]⟩ : Str) ∈ pieces z c
          · rw [if_pos h2] at hq
            simp [h2]
            exact hq
          · rw [if_neg h2] at hq
            simp [h2, retV]
            exact hq

/-! ### right -/
theorem str_ne (x y : Str) : fNe (.str x) (.str y) = some (.im (.bl (!decide (x = y)))) := by
  unfold fNe
  simp [bas, eqb]
  rfl
theorem strs_bas (zs : List Str) : bas 8 (.lst (zs.map .str)) = true := by simp [bas]
theorem strs_ne (zs : List Str) : fNe (.lst (zs.map .str)) (.lst (zs.map .str)) = some (.im (.bl false)) := by
  unfold fNe
  rw [strs_bas, eqb_refl 8 _ (strs_bas zs)]
  rfl
theorem strs_eq (zs : List Str) : fEq (.lst (zs.map .str)) (.lst (zs.map .str)) = some (.im (.bl true)) := by
  unfold fEq
  rw [strs_bas, eqb_refl 8 _ (strs_bas zs)]
  rfl
theorem non_ne : fNe .non .non = some (.im (.bl false)) := rfl
theorem non_eq : fEq .non .non = some (.im (.bl true)) := rfl
theorem cutC_len (c : Nat) : ∀ (L acc : List Nat), (cutC c acc L).length ≤ L.length + 1
  | [], _ => by simp [cutC]
  | d :: L, acc => by
    unfold cutC
    split
    · have := cutC_len c L []; simp; omega
    · have := cutC_len c L (acc ++ [d]); simp; omega
theorem pieces_len (z : Str) (c : Nat) : (pieces z c).length ≤ z.length + 1 := by
  have := cutC_len c z.cps.toList []
  simp [pieces, Str.length] at this ⊢
  exact this
theorem g1 (a b : D) : g_split_words_1_separator [a] [] [b] = [a, b] := rfl
theorem g0 (a b : D) : g_split_words_0_text_separator [] [] [a, b] = [a, b] := rfl
theorem sp_eq : Str.ofString " " = ch 32 := by decide +kernel
theorem right_ok {z : Str} {c : Nat} {st : List Ob} (hz : z.length + 2 ≤ sizeLine) (hc : c < 256) (Q : Va → List Ob → Prop) (hq : Q (.im (.bl true)) st) : WpF (f__law_right [.str z, .str (ch c)] st) Q fun _ _ => False := by
  have hp := pieces_len z c
  have hp2 : (pieces z c).length < sizeLine := by omega
  simp only [f__law_right, wpf_fn, ws_seq, ws_for]
  simp [rng1]
  refine for_inv _ (fun _ s => ∃ a b, s = ⟨[.im (.str z), .im (.str (ch c)), a, b], st⟩) ⟨_, _, rfl⟩ (fun i d s hd hI => ?_) (fun s hI => ?_)
  · obtain ⟨a, b, rfl⟩ := hI
    simp [gvName, g1]
    refine split_ok hz hc _ ?_
    unfold resV
    by_cases h : 10 ∈ z.cps.toList
    · rw [if_pos h]
      simp
      refine due_ok hz _ ?_
      unfold resV
      rw [if_pos h]
      simp [non_ne, fIsnt, VI.isNon]
    · rw [if_neg h]
      by_cases h2 : (⟨#[]⟩ : Str) ∈ pieces z c
      · rw [if_pos h2]
        simp
        refine due_ok hz _ ?_
        unfold resV
        rw [if_neg h, if_pos h2]
        simp [non_ne, fIsnt, VI.isNon]
      · rw [if_neg h2]
        simp
        refine due_ok hz _ ?_
        unfold resV
        rw [if_neg h, if_neg h2]
        simp [strs_ne, fIsnt, VI.isNon, isLst, fAppend, hp2]
        rw [putV_pl (p := false) (o' := .lst ((pieces z c).map .str)) rfl]
        exact ⟨_, _, rfl⟩
  · obtain ⟨a, b, rfl⟩ := hI
    simp [str_ne, tru, sp_eq]
    by_cases hs : c = 32
    · subst hs
      simp
      refine split_ok hz (by decide) _ ?_
      unfold resV
      by_cases h : 10 ∈ z.cps.toList
      · rw [if_pos h]
        simp
        refine due_ok hz _ ?_
        unfold resV
        rw [if_pos h]
        simp [non_eq]
        exact hq
      · rw [if_neg h]
        by_cases h2 : (⟨#[]⟩ : Str) ∈ pieces z 32
        · rw [if_pos h2]
          simp
          refine due_ok hz _ ?_
          unfold resV
          rw [if_neg h, if_pos h2]
          simp [non_eq]
          exact hq
        · rw [if_neg h2]
          simp
          refine due_ok hz _ ?_
          unfold resV
          rw [if_neg h, if_neg h2]
          simp [strs_eq]
          exact hq
    · have : ch c ≠ ch 32 := fun e => hs (by simpa [ch] using e)
      simp [this]
      exact hq
theorem none_ok {d m : D} {st : List Ob} (hr : ∀ s, rd (.im d) s = some d) (hi : fIsi [d, .ty "str"] = some (.im (.bl false))) (Q : Va → List Ob → Prop) (hq : Q (.im .non) st) : WpF (f_split_words [d, m] st) Q fun _ _ => False := by
  simp [f_split_words, hr, hi, tru]
  exact hq

/-! ### words -/
theorem len_app (x y : Str) : (x ++ y).length = x.length + y.length := by
  show (Str.append x y).length = _
  simp [Str.append, Str.length]
theorem join_len (a : Str) : ∀ zs : List Str, (Str.join a zs).length ≤ (zs.map (·.length)).sum + zs.length * a.length
  | [] => by simp [Str.join, Str.empty, Str.length]
  | [z] => by simp [Str.join]
  | z :: w :: zs => by
    have ih := join_len a (w :: zs)
    have e : Str.join a (z :: w :: zs) = z ++ a ++ Str.join a (w :: zs) := rfl
    rw [e, len_app, len_app]
    simp only [List.map_cons, List.sum_cons, List.length_cons, Nat.add_mul] at ih ⊢
    omega
theorem strsOf_map : ∀ zs : List Str, strsOf (zs.map .str) = some zs
  | [] => rfl
  | z :: zs => by
    show (strsOf (zs.map .str)).map (fun r => z :: r) = _
    rw [strsOf_map zs]
    rfl
theorem fJoin_ok {a : Str} {zs : List Str} (h : (zs.map (·.length)).sum + zs.length * a.length ≤ 16777216) : fJoin a (.lst (zs.map .str)) = some (.im (.str (Txt.join a zs))) := by
  unfold fJoin
  simp only [seqOf, strsOf_map]
  rw [if_pos h]
theorem sum_one : ∀ xs : List Nat, ((xs.map ch).map (·.length)).sum = xs.length
  | [] => rfl
  | x :: xs => by
    have := sum_one xs
    simp [ch, Str.length] at this ⊢
    omega
theorem chs_join (xs : List Nat) (h : xs.length ≤ 1000) : ∃ W : Str, fJoin (Str.ofString "") (.lst (xs.map fun x => .str (ch x))) = some (.im (.str W)) ∧ W.length ≤ xs.length := by
  have e : xs.map (fun x => D.str (ch x)) = (xs.map ch).map .str := by simp
  have hs := sum_one xs
  refine ⟨Txt.join (Str.ofString "") (xs.map ch), ?_, ?_⟩
  · rw [e]
    refine fJoin_ok ?_
    rw [hs, emp_eq]
    simp [Str.length]
    omega
  · rw [TL.join_eq]
    have := join_len (Str.ofString "") (xs.map ch)
    rw [hs, emp_eq] at this
    rw [emp_eq]
    simpa [Str.length] using this
theorem signs_ok : ∃ T : Str, fAdd (.str (Str.ofString "abcxyzABZ0129 .,:;!?/()[]{}<>=+-*#@&$^|~_'")) (.str (Str.ofString "\"")) = some (.im (.str T)) ∧ T.cps.toList.length = 43 ∧ T.length ≤ sizeLine := by
  refine ⟨Str.ofString "abcxyzABZ0129 .,:;!?/()[]{}<>=+-*#@&$^|~_'" ++ Str.ofString "\"", ?_, ?_, ?_⟩
  · rw [fAdd_str, if_pos]
    decide +kernel
  · decide +kernel
  · decide +kernel
def fSign (m : Str) : D → Option D
  | .str s => if s = m then none else some (.str s)
  | _ => none
theorem sign_filter (m : Str) : ∀ L : List Nat, (L.map fun x => D.str (ch x)).filterMap (fSign m) = (L.filter fun x => decide (ch x ≠ m)).map fun x => .str (ch x)
  | [] => rfl
  | x :: L => by
    have ih := sign_filter m L
    by_cases h : ch x = m
    · have e : fSign m (.str (ch x)) = none := by simp [fSign, h]
      rw [List.map_cons, List.filterMap_cons_none e, List.filter_cons_of_neg (by simp [h]), ih]
    · have e : fSign m (.str (ch x)) = some (.str (ch x)) := by simp [fSign, h]
      rw [List.map_cons, List.filterMap_cons_some e, List.filter_cons_of_pos (by simp [h]), ih]
      rfl
theorem word_ok {b : Nat} {N : Int} {st : List Ob} {ob : Ob} {m : Str} (h : st[b]? = some ob) (hb : BxO N ob) (hN : N < 900000) (Q : Va → List Ob → Prop) (hq : ∀ w ob', w.length ≤ 6 → BxO (N + 8) ob' → Q (.im (.str w)) (st.set b ob')) : WpF (f__law_word [.ref b, .str m] st) Q fun _ _ => False := by
  obtain ⟨T, hT, hT2, hT3⟩ := signs_ok
  simp only [f__law_word, wpf_fn, ws_seq, ws_own, wp_op, wp_c]
  simp [hT]
  rw [wp_comp]
  simp
  refine take_ok (m := 6) h hb (by omega) (by decide) (by decide) _ fun r ob1 hr hr2 hb1 => ?_
  have hrg : -4611686018427387904 ≤ 1 + r ∧ 1 + r < 4611686018427387904 := by omega
  simp [rng1, hrg]
  have hn : (rngD 0 (1 + r).toNat).length ≤ 6 := by simp [rngD]; omega
  obtain ⟨acc, s2, e, ob2, xs, rfl, hb2, rfl, hx⟩ := comp_inv (vs := [4]) (gv := gvName 4) (tt := pure true) (te := evOp fIx (evVar 2) (evCall f__law_take [] (evCons (evVar 0) (evCons (evC (D.int 43)) evNil)))) (s := ⟨[.im (.ref b), .im (.str m), .im (.str T), .un, .un, .un], st.set b ob1⟩) (acc := [])
    (Q := fun acc s => ∃ ob' xs, s = ⟨[.im (.ref b), .im (.str m), .im (.str T), .un, .un, .un], st.set b ob'⟩ ∧ BxO (N + 1 + 6) ob' ∧ acc = xs.map (fun x => .str (ch x)) ∧ xs.length ≤ 6) (rngD 0 (1 + r).toNat)
    (fun i acc s => ∃ ob' xs, s = ⟨[.im (.ref b), .im (.str m), .im (.str T), .un, .un, .un], st.set b ob'⟩ ∧ BxO (N + 1 + (i : Nat)) ob' ∧ acc = xs.map (fun x => .str (ch x)) ∧ xs.length = i) ⟨ob1, [], rfl, by simpa using hb1, rfl, rfl⟩
    (fun i d acc s hd ⟨ob', xs, es, hb', ea, hx⟩ => by
      have hi := (List.getElem?_eq_some_iff.mp hd).1
      subst es ea
      simp [gvName, W1]
      refine take_ok (m := 43) (ob := ob') (N := N + 1 + (i : Nat)) (by simp [h]) hb' (by omega) (by decide) (by decide) _ fun r' ob2 hr' hr2' hb2' => ?_
      simp [hT3, atI_of hr' (show r' < T.cps.toList.length by rw [hT2]; exact hr2')]
      refine ⟨?_, ob2, rfl, ?_, xs ++ [T.cps.toList[r'.toNat]'(by rw [hT2]; omega)], by simp [ch], by simp [hx]⟩
      · rw [hx]
        have : (6 : Nat) < sizeLine := by decide
        omega
      · have e : N + 1 + ((i : Int) + 1) = N + 1 + (i : Nat) + 1 := by omega
        rw [e]; exact hb2') (fun acc s ⟨ob', xs, es, hb', ea, hx⟩ => ⟨ob', xs, es, hb'.mono (by omega), ea, by omega⟩)
  refine ⟨_, _, e, ?_⟩
  obtain ⟨W, hW, hWl⟩ := chs_join xs (by omega)
  have hW6 : W.length ≤ sizeLine := by
    have : (6 : Nat) < sizeLine := by decide
    omega
  rw [hW]
  simp [mergeS, mergeE]
  refine wp_comp_pure (fSign m) ?_
  simp [itOf, hW6]
  have hf := sign_filter m W.cps.toList
  have hlen : (W.cps.toList.filter fun x => decide (ch x ≠ m)).length ≤ 6 := by
    have := List.length_filter_le (fun x => decide (ch x ≠ m)) W.cps.toList
    have e : W.cps.toList.length = W.length := by simp [Str.length]
    omega
  refine ⟨fun x hx => ?_, ?_, ?_⟩
  · simp [gvName, W1, str_ne, fSign, wipeS, wipeE]
  · simpa [Str.length] using hW6
  · obtain ⟨V, hV, hVl⟩ := chs_join (W.cps.toList.filter fun x => decide (ch x ≠ m)) (by omega)
    have hf2 : List.filterMap (fSign m ∘ fun c => D.str ⟨#[c]⟩) W.cps.toList = (W.cps.toList.filter fun x => decide (ch x ≠ m)).map fun x => .str (ch x) := by
      rw [← hf]
      simp [List.filterMap_map, ch]
    rw [hf2, hV]
    have hB : BxO (N + 8) ob2 := hb2.mono (by omega)
    simp [str_ne, str_eq]
    by_cases hv : V = Str.ofString ""
    · simp [hv, fInt]
      refine ⟨by decide, ?_⟩
      by_cases ha : m = Str.ofString "a"
      · simp [ha, atI, ixN, retV]
        exact hq _ _ (by decide +kernel) hB
      · simp [ha, atI, ixN, retV]
        exact hq _ _ (by decide +kernel) hB
    · simp [hv, retV]
      exact hq _ _ (by omega) hB
end K04
end
section
set_option Elab.async false
set_option linter.all false
set_option maxRecDepth 100000
set_option maxHeartbeats 1000000
/-! N04: the law of k04. -/
namespace K04
open PySem PySem.Spec L2 VI
theorem rng_get {n i : Nat} {d : D} (h : (rngD 0 n)[i]? = some d) : d = .int (i : Int) ∧ i < n := by
  have hi : i < n := by simpa [rngD] using (List.getElem?_eq_some_iff.mp h).1
  simp only [rngD, List.getElem?_map, List.getElem?_range hi, Option.map_some, Option.some.injEq] at h
  refine ⟨?_, hi⟩
  rw [← h]
  simp
theorem mark_ok {r : Int} (h1 : 0 ≤ r) (h2 : r < 7) : ∃ c, c < 256 ∧ atI [D.str (Str.ofString " "), D.str (Str.ofString " "), D.str (Str.ofString "+"), D.str (Str.ofString ";"), D.str (Str.ofString ":"), D.str (Str.ofString "a"), D.str (Str.ofString "~")] r = some (.str (ch c)) := by
  have e : r = 0 ∨ r = 1 ∨ r = 2 ∨ r = 3 ∨ r = 4 ∨ r = 5 ∨ r = 6 := by omega
  rcases e with rfl | rfl | rfl | rfl | rfl | rfl | rfl
  · exact ⟨32, by decide, congrArg (fun z => some (D.str z)) (show Str.ofString " " = ch 32 by decide +kernel)⟩
  · exact ⟨32, by decide, congrArg (fun z => some (D.str z)) (show Str.ofString " " = ch 32 by decide +kernel)⟩
  · exact ⟨43, by decide, congrArg (fun z => some (D.str z)) (show Str.ofString "+" = ch 43 by decide +kernel)⟩
  · exact ⟨59, by decide, congrArg (fun z => some (D.str z)) (show Str.ofString ";" = ch 59 by decide +kernel)⟩
  · exact ⟨58, by decide, congrArg (fun z => some (D.str z)) (show Str.ofString ":" = ch 58 by decide +kernel)⟩
  · exact ⟨97, by decide, congrArg (fun z => some (D.str z)) (show Str.ofString "a" = ch 97 by decide +kernel)⟩
  · exact ⟨126, by decide, congrArg (fun z => some (D.str z)) (show Str.ofString "~" = ch 126 by decide +kernel)⟩
noncomputable def restS : Sx := (svSeq (svHow .own 9 (evLst (evCons (evVar 6) (evCons (evOp fAdd (evOp fAdd (evSl (evVar 6) (evPart none) (evPart (some (evVar 7)))) (evVar 3)) (evSl (evVar 6) (evPart (some (evVar 7))) (evPart none))) (evCons (evOp fAdd (evOp fAdd (evSl (evVar 6) (evPart none) (evPart (some (evVar 7)))) (evC (.str ("\n" : Str)))) (evSl (evVar 6) (evPart (some (evVar 7))) (evPart none))) (evCons (evOp fAdd (evVar 3) (evVar 6)) (evCons (evOp fAdd (evVar 6) (evVar 3)) (evCons (evC (.str ("" : Str))) evNil))))))))
  (svSeq (svFor (evIt (evOp fAdd (evVar 9) (evSl (evLst (evCons (evOp fMul (evVar 6) (evC (.int 40))) (evCons (evOp fMul (evVar 6) (evOp fDiv (evC (.int 120000)) (evBl fMax2 (evConsV (evC (.int 1)) (evConsV (evBl fLen (evConsV (evVar 6) evNilV)) evNilV))))) evNil))) (evPart none) (evPart (some (evOp fAdd (evC (.int 1)) (evBl fInt (evConsV (evVar 8) evNilV)))))))) (gvName 10)
  (svIf (mNot (evT (evCall f__law_right [] (evCons (evVar 10) (evCons (evVar 3) evNil))))) (svRet (evC (.bl false))) svSkip))
  (svFor (evIt (evLst (evCons (evC .non) (evCons (evC (.int 5)) (evCons (evC (.bl true)) (evCons (evLst (evCons (evSl (evVar 6) (evPart none) (evPart (some (evC (.int 99))))) evNil)) (evCons (evTup (evCons (evSl (evVar 6) (evPart none) (evPart (some (evC (.int 99))))) evNil)) (evCons (pure (.fr (.dk []))) evNil)))))))) (gvName 11)
  (svIf (mOr (evB (evOp fIsnt (evCall f_split_words [(.str " ")] (evCons (evVar 11) evNil)) (evC .non))) (evB (evOp fIsnt (evCallK f_split_words g_split_words_0_text_separator 0 2 [] evNil (evCons (evVar 11) (evCons (evVar 3) evNil))) (evC .non)))) (svRet (evC (.bl false))) svSkip))))
theorem f_law_eq : f_law = fnOf 1 13 ((svSeq (svFor (evRng1 (evCons (evBl fMax2 (evConsV (evC (.int 2)) (evConsV (evBl fMin2 (evConsV (evC (.int 10)) (evConsV (evBl fLen (evConsV (evVar 0) evNilV)) evNilV))) evNilV))) evNil)) (gvName 1)
  (svSeq (svHow .cell 2 (evCall f__law_box [] (evCons (evCall f__law_cell [] (evCons (evVar 0) (evCons (evVar 1) evNil))) evNil)))
  (svSeq (svHow .own 3 (evOp fIx (evLst (evCons (evC (.str (" " : Str))) (evCons (evC (.str (" " : Str))) (evCons (evC (.str ("+" : Str))) (evCons (evC (.str (";" : Str))) (evCons (evC (.str (":" : Str))) (evCons (evC (.str ("a" : Str))) (evCons (evC (.str ("~" : Str))) evNil)))))))) (evCall f__law_take [] (evCons (evVar 2) (evCons (evC (.int 7)) evNil)))))
  (svSeq (svHow .own 4 (evOp fIx (evLst (evCons (evOp fAdd (evC (.int 1)) (evCall f__law_take [] (evCons (evVar 2) (evCons (evC (.int 6)) evNil)))) (evCons (evCall f__law_take [] (evCons (evVar 2) (evCons (evC (.int 40)) evNil))) evNil))) (evCall f__law_take [] (evCons (evVar 2) (evCons (evC (.int 2)) evNil)))))
  (svSeq (svHow .own 5 (evComp [12] (evRng1 (evCons (evVar 4) evNil)) (gvName 12) (pure true) (evCall f__law_word [] (evCons (evVar 2) (evCons (evVar 3) evNil)))))
  (svSeq (svHow .own 6 (ev1 fJoin (evVar 3) (evVar 5)))
  (svSeq (svPar 7 8 (evCons (evCall f__law_take [] (evCons (evVar 2) (evCons (evOp fAdd (evBl fLen (evConsV (evVar 6) evNilV)) (evC (.int 1))) evNil))) (evCons (evAnd (evOp fEq (evVar 1) (evC (.int 0))) (evOp fEq (evCall f__law_take [] (evCons (evVar 2) (evCons (evC (.int 3)) evNil))) (evC (.int 0)))) evNil)))
  restS)))))))
  (svRet (evC (.bl true))))) := rfl
theorem cutS_len (z : Str) (lo hi : Option Int) : (cutS z lo hi).length ≤ z.length := by
  unfold cutS
  simp [Str.length]
  omega
theorem mul_len (z : Str) (n : Nat) : (⟨(List.replicate n z.cps.toList).flatten.toArray⟩ : Str).length = n * z.length := by
  simp [Str.length]
theorem tail_ok {S0 x1 x2 x4 x5 x9 x10 x11 x12 : Sl} {W : Str} {c : Nat} {a : Int} {L : Bool} {st : List Ob} (hW : W.length ≤ 1000) (hc : c < 256) (rt : Va → S → Prop) :
    WpS (restS ⟨[S0, x1, x2, .im (.str (ch c)), x4, x5, .im (.str W), .im (.int a), .im (.bl L), x9, x10, x11, x12], st⟩) (fun s => ∃ a b c d e f g h i j k l st, s = ⟨[S0, a, b, c, d, e, f, g, h, i, j, k, l], st⟩) rt (fun _ => False) (fun _ => False) (fun _ _ => False) := by
  have hsl : sizeLine = 16777216 := sizeLine_eq
  have hch : (ch c).length = 1 := rfl
  have hnl : (Str.ofString "\n").length = 1 := by decide +kernel
  have c1 := cutS_len W none (some a)
  have c2 := cutS_len W (some a) none
  obtain ⟨A, hA, hAl⟩ : ∃ A : Str, fMul (.str W) (.int 40) = some (.im (.str A)) ∧ A.length ≤ 40000 := by
    refine ⟨_, if_pos ?_, ?_⟩
    · simp [hsl]; omega
    · rw [mul_len]
      have : (40 : Int).toNat = 40 := rfl
      rw [this]
      omega
  obtain ⟨B, hB, hBl⟩ : ∃ B : Str, fMul (.str W) (.int (120000 / (if (1 : Int) < W.length then (W.length : Int) else 1))) = some (.im (.str B)) ∧ B.length ≤ 120000 := by
    have hm : (120000 / (if (1 : Int) < W.length then (W.length : Int) else 1)).toNat * W.length ≤ 120000 := by
      by_cases h1 : (1 : Int) < W.length
      · rw [if_pos h1]
        have e : (120000 : Int) / (W.length : Int) = ((120000 / W.length : Nat) : Int) := (Int.natCast_ediv 120000 W.length).symm
        rw [e, Int.toNat_natCast]
        exact Nat.div_mul_le_self _ _
      · rw [if_neg h1]
        have e : W.length ≤ 1 := by omega
        have e2 : (120000 / (1 : Int)).toNat = 120000 := by decide
        rw [e2]
        omega
    have h0 : 0 ≤ 120000 / (if (1 : Int) < W.length then (W.length : Int) else 1) := by
      refine Int.ediv_nonneg (by decide) ?_
      split <;> omega
    have h9 : 120000 / (if (1 : Int) < W.length then (W.length : Int) else 1) ≤ 120000 := by
      refine Int.ediv_le_self _ (by decide)
    refine ⟨_, if_pos ?_, ?_⟩
    · simp only [Bool.and_eq_true, decide_eq_true_eq, hsl]
      refine ⟨h0, by omega, ?_⟩
      rw [Nat.mul_comm]
      omega
    · rw [mul_len]
      exact hm
  have hM : (0 : Int) < (if (1 : Int) < W.length then (W.length : Int) else 1) ∧ (if (1 : Int) < W.length then (W.length : Int) else 1) < 1073741824 := by
    split <;> omega
  simp only [restS, ws_seq, ws_for]
  simp [-fMul_str, fSl, len_app, hch, hnl, hsl, hA, fLen, fMax2, hM, hB, fInt]
  have hcd : ∀ d ∈ cutD [D.str A, D.str B] none (some (1 + if L = true then 1 else 0)), d = .str A ∨ d = .str B := fun d hd => by
    have h1 : d ∈ [D.str A, D.str B] := List.mem_of_mem_drop (List.mem_of_mem_take hd)
    simpa using h1
  have hcl : (cutD [D.str A, D.str B] none (some (1 + if L = true then 1 else 0))).length ≤ 2 := cut_len _ _ _
  refine ⟨by omega, by omega, by omega, by omega, by omega, by omega, by omega, by omega, by omega, by omega, by omega, by omega, ?_⟩
  generalize cutD [D.str A, D.str B] none (some (1 + if L = true then 1 else 0)) = cd at hcd hcl
  simp [itOf, seqOf]
  have hall : ∀ d ∈ D.str W :: D.str (cutS W none (some a) ++ ch c ++ cutS W (some a) none) :: D.str (cutS W none (some a) ++ Str.ofString "\n" ++ cutS W (some a) none) :: D.str (ch c ++ W) :: D.str (W ++ ch c) :: D.str (Str.ofString "") :: cd, ∃ z : Str, d = .str z ∧ z.length + 2 ≤ sizeLine := fun d hd => by
    have hem : (Str.ofString "").length = 0 := by decide +kernel
    simp only [List.mem_cons] at hd
    rcases hd with rfl | rfl | rfl | rfl | rfl | rfl | hd
    · exact ⟨_, rfl, by omega⟩
    · exact ⟨_, rfl, by rw [len_app, len_app, hch]; omega⟩
    · exact ⟨_, rfl, by rw [len_app, len_app, hnl]; omega⟩
    · exact ⟨_, rfl, by rw [len_app, hch]; omega⟩
    · exact ⟨_, rfl, by rw [len_app, hch]; omega⟩
    · exact ⟨_, rfl, by omega⟩
    · rcases hcd d hd with rfl | rfl
      · exact ⟨_, rfl, by omega⟩
      · exact ⟨_, rfl, by omega⟩
  generalize (D.str W :: D.str (cutS W none (some a) ++ ch c ++ cutS W (some a) none) :: D.str (cutS W none (some a) ++ Str.ofString "\n" ++ cutS W (some a) none) :: D.str (ch c ++ W) :: D.str (W ++ ch c) :: D.str (Str.ofString "") :: cd) = rows at hall
  refine for_inv _ (fun _ s => ∃ x9 x10 st, s = ⟨[S0, x1, x2, .im (.str (ch c)), x4, x5, .im (.str W), .im (.int a), .im (.bl L), x9, x10, x11, x12], st⟩) ⟨_, _, _, rfl⟩ (fun i d s hd hI => ?_) (fun s hI => ?_)
  · obtain ⟨y9, y10, st2, rfl⟩ := hI
    obtain ⟨z, rfl, hz⟩ := hall d (List.mem_of_getElem? hd)
    simp [gvName]
    refine right_ok hz hc _ ?_
    simp [tru]
  · obtain ⟨y9, y10, st2, rfl⟩ := hI
    simp
    refine ⟨by omega, ?_⟩
    refine for_inv _ (fun _ s => ∃ x9 x10 x11 st, s = ⟨[S0, x1, x2, .im (.str (ch c)), x4, x5, .im (.str W), .im (.int a), .im (.bl L), x9, x10, x11, x12], st⟩) ⟨_, _, _, _, rfl⟩ (fun i d s hd hI => ?_) (fun s hI => ?_)
    · obtain ⟨z9, z10, z11, st3, rfl⟩ := hI
      have hm := List.mem_of_getElem? hd
      have hk : (∀ s, rd (.im d) s = some d) ∧ fIsi [d, .ty "str"] = some (.im (.bl false)) := by
        simp only [List.mem_cons, List.mem_nil_iff, or_false] at hm
        rcases hm with rfl | rfl | rfl | rfl | rfl | rfl
        · exact ⟨fun _ => rfl, rfl⟩
        · exact ⟨fun _ => rfl, rfl⟩
        · exact ⟨fun _ => rfl, rfl⟩
        · exact ⟨fun _ => rfl, rfl⟩
        · exact ⟨fun _ => rfl, rfl⟩
        · exact ⟨fun _ => rfl, rfl⟩
      simp [gvName]
      refine none_ok hk.1 hk.2 _ ?_
      simp [fIsnt, VI.isNon, g0]
      refine none_ok hk.1 hk.2 _ ?_
      simp [fIsnt, VI.isNon]
    · obtain ⟨z9, z10, z11, st3, rfl⟩ := hI
      exact ⟨_, _, _, _, _, _, _, _, _, _, _, _, _, rfl⟩
theorem sum_le : ∀ zs : List Str, (∀ z ∈ zs, z.length ≤ 6) → (zs.map (·.length)).sum ≤ 6 * zs.length
  | [], _ => by simp
  | z :: zs, h => by
    have h1 := h z (List.mem_cons_self ..)
    have h2 := sum_le zs fun w hw => h w (List.mem_cons_of_mem _ hw)
    simp only [List.map_cons, List.sum_cons, List.length_cons]
    omega
theorem int_eq (i j : Int) : fEq (.int i) (.int j) = some (.im (.bl (decide (i = j)))) := by
  unfold fEq
  simp [bas, eqb]
  rfl
theorem law_true (ns : List Int) (hns : ns.length ≤ 63) : ∃ st, f_law [.lz (ns.map .int)] [] = .ok (.im (.bl true)) st := by
  refine WpF.eq ?_
  rw [f_law_eq]
  simp only [wpf_fn, ws_seq, ws_for]
  simp [fMax2, fMin2, fLen]
  have hr : ∃ n : Nat, n ≤ 10 ∧ rng1 [.int (if 2 < (if (ns.length : Int) < 10 then (ns.length : Int) else 10) then (if (ns.length : Int) < 10 then (ns.length : Int) else 10) else 2)] = some (rngD 0 n) := by
    by_cases h1 : (ns.length : Int) < 10
    · by_cases h2 : (2 : Int) < ns.length
      · refine ⟨ns.length, by omega, ?_⟩
        simp [rng1, h1, h2]; omega
      · refine ⟨2, by omega, ?_⟩
        simp [rng1, h1, h2]
    · refine ⟨10, by omega, ?_⟩
      simp [rng1, h1]
  obtain ⟨n, hn, hrn⟩ := hr
  rw [hrn]
  simp only [ow_some]
  refine for_inv _ (fun _ s => ∃ a b c d e f g h i j k l st, s = ⟨[.im (.lz (ns.map .int)), a, b, c, d, e, f, g, h, i, j, k, l], st⟩) ⟨_, _, _, _, _, _, _, _, _, _, _, _, _, rfl⟩ (fun i d s hd hI => ?_) (fun s hI => trivial)
  obtain ⟨x1, x2, x3, x4, x5, x6, x7, x8, x9, x10, x11, x12, st, rfl⟩ := hI
  obtain ⟨rfl, hi⟩ := rng_get hd
  simp [gvName]
  refine cell_ok (by omega) (by omega) _ fun v => ?_
  simp
  refine box_ok _ fun ob hb => ?_
  simp
  have h0 : (st ++ [ob])[st.length]? = some ob := by simp
  generalize st ++ [ob] = st1 at h0 ⊢
  generalize st.length = b at h0 ⊢
  refine ⟨by decide, ?_⟩
  refine take_ok (m := 7) h0 hb (by decide) (by decide) (by decide) _ fun r1 ob1 hr1 hr1' hb1 => ?_
  obtain ⟨c, hc, hm⟩ := mark_ok hr1 hr1'
  simp [hm]
  refine take_ok (m := 6) (ob := ob1) (by simp [h0]) hb1 (by decide) (by decide) (by decide) _ fun r2 ob2 hr2 hr2' hb2 => ?_
  simp
  refine take_ok (m := 40) (ob := ob2) (by simp [h0]) hb2 (by decide) (by decide) (by decide) _ fun r3 ob3 hr3 hr3' hb3 => ?_
  simp
  refine ⟨by decide, ?_⟩
  refine take_ok (m := 2) (ob := ob3) (by simp [h0]) hb3 (by decide) (by decide) (by decide) _ fun r4 ob4 hr4 hr4' hb4 => ?_
  have hmany : ∃ q : Int, 0 ≤ q ∧ q ≤ 45 ∧ atI [D.int (1 + r2), D.int r3] r4 = some (.int q) := by
    have e : r4 = 0 ∨ r4 = 1 := by omega
    rcases e with rfl | rfl
    · exact ⟨1 + r2, by omega, by omega, rfl⟩
    · exact ⟨r3, by omega, by omega, rfl⟩
  obtain ⟨q, hq0, hq1, hq⟩ := hmany
  simp [hq]
  rw [wp_comp]
  simp [rng1]
  refine ⟨by omega, ?_⟩
  obtain ⟨acc, s2, e, ob5, zs, rfl, hb5, rfl, hz1, hz2⟩ := comp_inv (vs := [12]) (gv := gvName 12) (tt := pure true) (te := evCall f__law_word [] (evCons (evVar 2) (evCons (evVar 3) evNil))) (s := ⟨[.im (.lz (ns.map .int)), .im (.int (i : Nat)), .im (.ref b), .im (.str (ch c)), .im (.int q), x5, x6, x7, x8, x9, x10, x11, .un], st1.set b ob4⟩) (acc := [])
    (Q := fun acc s => ∃ ob' zs, s = ⟨[.im (.lz (ns.map .int)), .im (.int (i : Nat)), .im (.ref b), .im (.str (ch c)), .im (.int q), x5, x6, x7, x8, x9, x10, x11, .un], st1.set b ob'⟩ ∧ BxO 1000 ob' ∧ acc = zs.map .str ∧ zs.length ≤ 45 ∧ ∀ z ∈ zs, z.length ≤ 6) (rngD 0 q.toNat)
    (fun j acc s => ∃ ob' zs, s = ⟨[.im (.lz (ns.map .int)), .im (.int (i : Nat)), .im (.ref b), .im (.str (ch c)), .im (.int q), x5, x6, x7, x8, x9, x10, x11, .un], st1.set b ob'⟩ ∧ BxO (4 + 8 * (j : Nat)) ob' ∧ acc = zs.map .str ∧ zs.length = j ∧ ∀ z ∈ zs, z.length ≤ 6) ⟨ob4, [], rfl, hb4.mono (by decide), rfl, rfl, fun _ h => by simp at h⟩
    (fun j d acc s hd ⟨ob', zs, es, hb', ea, hx, hy⟩ => by
      have hi := (List.getElem?_eq_some_iff.mp hd).1
      have hj : j < 45 := by
        have : (rngD 0 q.toNat).length = q.toNat := by simp [rngD]
        omega
      subst es ea
      simp [gvName, W1]
      refine word_ok (ob := ob') (N := 4 + 8 * (j : Nat)) (by simp [h0]) hb' (by omega) _ fun w ob2 hw hb2' => ?_
      simp
      have hs45 : (45 : Nat) < sizeLine := by decide
      refine ⟨by omega, ob2, rfl, ?_, zs ++ [w], by simp, by simp [hx], fun z hz => ?_⟩
      · have e : 4 + 8 * ((j : Int) + 1) = 4 + 8 * (j : Nat) + 8 := by omega
        rw [e]; exact hb2'
      · rcases List.mem_append.mp hz with h | h
        · exact hy z h
        · simp at h; subst h; exact hw) (fun acc s ⟨ob', zs, es, hb', ea, hx, hy⟩ => ⟨ob', zs, es, hb'.mono (by
          have : (rngD 0 q.toNat).length = q.toNat := by simp [rngD]
          omega), ea, by
          have : (rngD 0 q.toNat).length = q.toNat := by simp [rngD]
          omega, hy⟩)
  refine ⟨_, _, e, ?_⟩
  have hsum := sum_le zs hz2
  have hj : fJoin (ch c) (.lst (zs.map .str)) = some (.im (.str (Txt.join (ch c) zs))) := fJoin_ok (by
    have : (ch c).length = 1 := rfl
    rw [this]; omega)
  have hWl : (Txt.join (ch c) zs).length ≤ 1000 := by
    rw [TL.join_eq]
    have := join_len (ch c) zs
    have h1 : (ch c).length = 1 := rfl
    rw [h1] at this
    omega
  generalize Txt.join (ch c) zs = W at hj hWl
  have hW6 : W.length ≤ sizeLine := by
    have : (1000 : Nat) < sizeLine := by decide
    omega
  simp [mergeS, mergeE, hj, fLen, hW6]
  refine take_ok (ob := ob5) (m := (W.length : Int) + 1) (by simp [h0]) hb5 (by decide) (by omega) (by omega) _ fun r6 ob6 hr6 hr6' hb6 => ?_
  simp [int_eq, tru]
  by_cases hi0 : i = 0
  · simp [hi0]
    refine take_ok (ob := ob6) (m := 3) (by simp [h0]) hb6 (by decide) (by decide) (by decide) _ fun r7 ob7 hr7 hr7' hb7 => ?_
    simp [int_eq]
    exact ⟨_, _, ⟨rfl, rfl⟩, (tail_ok hWl hc _).mono (fun _ h => h) (fun _ _ h => h) (fun _ z => z.elim) (fun _ z => z.elim) (fun _ _ z => z)⟩
  · simp [hi0]
    exact ⟨_, _, ⟨rfl, rfl⟩, (tail_ok hWl hc _).mono (fun _ h => h) (fun _ _ h => h) (fun _ z => z.elim) (fun _ z => z.elim) (fun _ _ z => z)⟩
end K04
end
section
set_option Elab.async false
set_option linter.all false
set_option maxRecDepth 100000
set_option maxHeartbeats 0
namespace K04
open PySem PySem.Spec L2 VI
abbrev fa : List He.Fa := faOf gs ++ []
abbrev hk : PySem.W.Hook := He.hookD 4 fa fn
def ob (s : PySem.W.SharedT) : He.AlD := He.obsDG 4 fa fn (HandSHeadRun.getT s)
theorem ob_eq (s : PySem.W.SharedT) : ob s = hk.obs s.abs := He.obsDG_eq (HandSHeadRun.getT_eq s)
theorem run (w : World) : HandSHeadRun.RunEq (PySem.W.OpenLaw.row PySem.Challenge.rw_rolereach_k04_words_of_texts) (PySem.W.view (PySem.W.OpenLaw.row PySem.Challenge.rw_rolereach_k04_words_of_texts).prog [9]) hk ob 4000 ["split_words", "_law_cell", "_law_box", "_law_take", "_law_word", "_law_due", "_law_right"] w := by
  intro os
  kernel_rfl
theorem facts {P : Program} {w : World} {K : PySem.W.Frag} {h : Heap} {mg : Str → Option Value} {f : Addr} (X : K.In h) (G : h.Ns mainGlobals mg) (hfa : mg ("law" : Str) = some (.ref f)) (c : He.SaysD fa fn K) :
    ∃ fd : FuncData, (∀ (s : Shared) (v : Value), BindsTo s fd ⟨[v], []⟩ [("_law_script", v)]) ∧ ∀ base : Heap, FnOk P w K mg base (CW P) lawLevel f fd ["_law_script"] (spLaw K 63) := by
  have env : EnvV K mg fn gs := EnvV.of X G c
  have e := hfa.symm.trans (env.at_ lawIx)
  cases e
  obtain ⟨fd, F⟩ := env.defs lawIx d_law rfl
  have b := FunD.bindsA (ps := ["_law_script"]) F fun _ _ _ _ _ _ us hl => match us, hl with | [_], _ => rfl
  exact ⟨fd, fun s v => b s [v] rfl, fun base => cw_ok (law_ok (f := f_law) (o_law' env F) (by rw [sizeLine_eq]; decide) law_true)⟩
end K04
open PySem PySem.W PySem.Calls PyProof.Rows
theorem PySem.Challenge.cw_rolereach_k04_words_of_texts_holds : PySem.Challenge.rw_rolereach_k04_words_of_texts.Holds := by
  w_on; o_law
  refine HandSHeadRun.head_any (r := OpenLaw.row PySem.Challenge.rw_rolereach_k04_words_of_texts) (q := view (OpenLaw.row PySem.Challenge.rw_rolereach_k04_words_of_texts).prog [9]) (H := K04.hk) (ob := K04.ob) (M := 4000) (loose := ["split_words", "_law_cell", "_law_box", "_law_take", "_law_word", "_law_due", "_law_right"]) (d := HandSHeadRun.topDef (OpenLaw.row PySem.Challenge.rw_rolereach_k04_words_of_texts).prog 9) (kwd := []) K04.ob_eq
    (by kernel_rfl) (fun s => by kernel_rfl) K04.run (by kernel_rfl) (by kernel_rfl) (by kernel_rfl) (by rfl) (by first | assumption | decide +kernel) (by decide +kernel) ⟨rfl, rfl, rfl, rfl, rfl, by decide +kernel⟩ ?hw ?hc
  case hw => w_witness2
  case hc =>
    refine L2.walk_ofE (l := PySem.Challenge.rw_rolereach_k04_words_of_texts) (n := 63) (k := K04.lawLevel) (x := "_law_script") (CX := VI.CW PySem.Challenge.rw_rolereach_k04_words_of_texts.prog) rfl (by decide) (by kernel_rfl) ⟨rfl, by decide, by decide⟩ ?F (fun _ _ _ _ z => VI.cw_no _ _ _ _ z)
    intro w mg fa h Y G hmg0
    obtain ⟨K, KX, c⟩ := Y
    have hmg : mg ("law" : PySem.Str) = some (.ref fa) := by
      have e : (HandSHeadRun.topDef (OpenLaw.row PySem.Challenge.rw_rolereach_k04_words_of_texts).prog 9).name = ("law" : PySem.Str) := by kernel_rfl
      rw [← e]
      exact hmg0
    obtain ⟨fd, hb, hF⟩ := K04.facts (P := PySem.Challenge.rw_rolereach_k04_words_of_texts.prog) (w := w) KX G hmg c
    exact ⟨K, fd, VI.spLaw K 63, KX, hb, fun H a ns hl _ hS => ⟨a, ns, rfl, hl, hS, fun _ => rfl⟩, fun base _ _ => hF base⟩
end
