import PyProof.Rows.All
import Wide.All
import OpenK.AllK
import Wide.FinOn
import HandS.ForMost
import HandS.ForExc
import HandS.Lambda
import HandS.TupAny
import HandS.TupMul
import HandS.Deep
import HandS.Codes
import HandS.SetFor
import HandS.Strs
import HandS.RaiseMore
import HandS.NoneIn
import HandS.SortInts
import HandS.Star
import HandS.IsInst
import HandS.Zip
import HandS.Text
import HandS.Conv
import HandS.Dict
import HandS.Style
import HandS.FStr
import HandS.GenOver
import HandS.GenCall
import HandS.GenList
import PyProof.ListStr
import KE.SortData
import KE.KRevSl
import PyProof.TupleOfSeq
import KE.KExcSuper
import HandS.HeadWalk
import HandS.HotCalls
import HandS.ExcIs
import HandS.ExcField
import KE.KExcIs
import KE.KTryMore
import KE.DataFind
import KE.KNest
import KE.KNestM
import PyProof.ExcBaseAll.ValueError
import PyProof.ExcBaseAll.LookupError
import PyProof.ExcBaseAll.ArithmeticError
import HandS.Head0
import HandS.Head1
import HandS.Head2
import HandS.HeadHook1
import HandS.HeadHook2
import HandS.HeadHook3
import HandS.HeadHook4
import PySem.Challenge.RW_threevalues_k07_relations_refused
set_option Elab.async false
set_option linter.all false
set_option maxRecDepth 100000
set_option maxHeartbeats 4000000
noncomputable section
namespace T3
open PySem PySem.Spec PyProof.Rows L2

/-! ### data: what cannot change; slots; the store -/
inductive D where
  | non | bl (b : Bool) | int (i : Int) | str (s : Str)
  | tup (xs : List D) | lst (xs : List D) | ro (xs : List D) | wt (xs : List D)
  | dic (ks : List Key) (vs : List D)
  | ins (c : Nat) (ns : List Str) (vs : List D)
inductive A where | val (d : D) | ref (i : Nat)
inductive O where
  | lst (xs : List D) | dic (ks : List Key) (vs : List D) | ins (c : Nat) (ns : List Str) (vs : List A)
abbrev Store := List O
abbrev Slots := List (Option A)

/-- an exception as data: its class's tag, its fields -/
structure X0 where
  c : Nat
  ns : List Str
  vs : List D
inductive Res where
  | ok (x : A) (S : Store) | exc (e : X0) (S : Store) | bad
inductive SRes where
  | nx (ρ : Slots) (S : Store) | rt (x : A) (S : Store) | bk (ρ : Slots) (S : Store) | ct (ρ : Slots) (S : Store) | exc (e : X0) (ρ : Slots) (S : Store) | bad
abbrev CE := Slots → Store → Res
abbrev CS := Slots → Store → SRes
inductive LRes where
  | ok (xs : List A) (S : Store) | exc (e : X0) (S : Store) | bad
abbrev CA := Slots → Store → LRes
abbrev Fn := List A → Store → Res

/-- where the classes stand, 1000 on: a held error; T: the tables of code objects, with the names of the lambdas that they hold -/
structure ClT where
  f : Nat → Addr
  T : List (Addr × Str)
instance : CoeFun ClT (fun _ => Nat → Addr) := ⟨ClT.f⟩
/-- no table -/
noncomputable def NT (o : HO) : Prop := ∀ ps, o ≠ .tbl ps
section rep
variable (K : PySem.W.Frag) (cl : ClT)
noncomputable def TupAt (N : Addr → Prop) (H : Hp) (a : Addr) (xs : List V) : Prop :=
  (∃ ob : Obj, H a = some (.frz ob (.tup xs)) ∧ ob.dict = none ∧ ¬ N a) ∨ ∃ (o : Obj) (its : Array Value) (n : Nat), K.lookup a = some o ∧ o.cls = .type "tuple" ∧ o.dict = none ∧ o.data = .seq its n ∧ its.size ≤ sizeLine ∧ Vals xs its.toList
noncomputable def RoAt (N : Addr → Prop) (H : Hp) (a : Addr) (xs : List V) : Prop :=
  (Rd H a (.lst xs) ∧ ¬ N a) ∨ ∃ (o : Obj) (its : Array Value) (n : Nat), K.lookup a = some o ∧ o.cls = .type "list" ∧ o.dict = none ∧ o.data = .seq its n ∧ its.size ≤ sizeLine ∧ Vals xs its.toList
/-- an instance: tracked; or (c from 1000 on) the error that a suite holds, told by its address cl c and its dict's, cl (c + 1); or (c from 2000 on) a def, at cl c -/
noncomputable def InsAt (N : Addr → Prop) (H : Hp) (a : Addr) (c : Nat) (ns : List Str) (xs : List V) : Prop :=
  (c < 1000 ∧ ∃ dx, H a = some (.ins (cl c) dx (ns.zip xs)) ∧ ¬ N a ∧ ns.length = xs.length) ∨ (a = cl c ∧ 1000 ≤ c ∧ H (cl (c + 1)) = some (.xd (ns.zip xs)) ∧ ¬ N (cl (c + 1)) ∧ ns.length = xs.length) ∨ (a = cl c ∧ 2000 ≤ c ∧ ns = [] ∧ xs = [])
mutual
inductive Rep (N : Addr → Prop) (H : Hp) : V → D → Prop
  | non : Rep N H .non .non
  | bl (b : Bool) : Rep N H (.bl b) (.bl b)
  | int (i : Int) : Rep N H (.int i) (.int i)
  | str (s : Str) : Rep N H (.str s) (.str s)
  | tup {a : Addr} {xs : List V} {ds : List D} : TupAt K N H a xs → RepL N H xs ds → Rep N H (.ref a) (.tup ds)
  | lst {a : Addr} {xs : List V} {ds : List D} : H a = some (.lst xs) → ¬ N a → RepL N H xs ds → Rep N H (.ref a) (.lst ds)
  | ro {a : Addr} {xs : List V} {ds : List D} : RoAt K N H a xs → RepL N H xs ds → Rep N H (.ref a) (.ro ds)
  | wt {a : Addr} {xs : List V} {ds : List D} : Rd H a (.tup xs) → ¬ N a → RepL N H xs ds → Rep N H (.ref a) (.wt ds)
  | dic {a : Addr} {ks : List Key} {xs : List V} {ds : List D} : H a = some (.dK (ks.zip xs)) → ¬ N a → ks.length = xs.length → RepL N H xs ds → Rep N H (.ref a) (.dic ks ds)
  | ins {a : Addr} {c : Nat} {ns : List Str} {xs : List V} {ds : List D} : InsAt cl N H a c ns xs → RepL N H xs ds → Rep N H (.ref a) (.ins c ns ds)
inductive RepL (N : Addr → Prop) (H : Hp) : List V → List D → Prop
  | nil : RepL N H [] []
  | cons {v : V} {vs : List V} {d : D} {ds : List D} : Rep N H v d → RepL N H vs ds → RepL N H (v :: vs) (d :: ds)
end
noncomputable def RepA (N : Addr → Prop) (H : Hp) (m : List Addr) (v : V) : A → Prop
  | .val d => Rep K cl N H v d
  | .ref i => ∃ a, m[i]? = some a ∧ v = .ref a
inductive RepAs (N : Addr → Prop) (H : Hp) (m : List Addr) : List V → List A → Prop
  | nil : RepAs N H m [] []
  | cons {v : V} {vs : List V} {x : A} {xs : List A} : RepA K cl N H m v x → RepAs N H m vs xs → RepAs N H m (v :: vs) (x :: xs)
noncomputable def RepO (N : Addr → Prop) (H : Hp) (m : List Addr) (a : Addr) : O → Prop
  | .lst ds => ∃ xs, H a = some (.lst xs) ∧ RepL K cl N H xs ds
  | .dic ks ds => ∃ xs, H a = some (.dK (ks.zip xs)) ∧ ks.length = xs.length ∧ RepL K cl N H xs ds
  | .ins c ns zs => ∃ dx xs, H a = some (.ins (cl c) dx (ns.zip xs)) ∧ ns.length = xs.length ∧ RepAs K cl N H m xs zs
end rep
/-- what may change: foreign things and the store's own -/
noncomputable def NN (B : Addr → Prop) (m : List Addr) : Addr → Prop := fun a => B a ∨ a ∈ m

section
variable {K : PySem.W.Frag} {cl : ClT} {N N' : Addr → Prop} {H H' : Hp} {m m' : List Addr}
theorem TupAt.seq {a : Addr} {xs : List V} (h : TupAt K N H a xs) : SqT K H a xs := by
  rcases h with ⟨ob, h, _⟩ | ⟨o, its, n, h1, h2, h3, h4⟩
  · exact .inl (.inr ⟨ob, h⟩)
  · exact .inr ⟨o, its, n, h1, h2, h4⟩
theorem RoAt.seq {a : Addr} {xs : List V} (h : RoAt K N H a xs) : SqL K H a xs := by
  rcases h with h | h
  · exact .inl h.1
  · exact .inr h
/-- what stays: all that may not change; what may change behind was such or was free -/
structure Kp (N N' : Addr → Prop) (H H' : Hp) : Prop where
  keep : ∀ a o, H a = some o → ¬ N a → NT o → H' a = some o
  may : ∀ a, N' a → N a ∨ H a = none
theorem Kp.kept (k : Kp N N' H H') (a : Addr) (o : HO) (h : H a = some o) (n : ¬ N a) (nt : NT o := by intro _ z; cases z) : H' a = some o := k.keep a o h n nt
theorem Kp.rd (k : Kp N N' H H') {a : Addr} {u : HO} (h : Rd H a u) (n : ¬ N a) (nt : NT u := by intro _ z; cases z) : Rd H' a u ∧ ¬ N' a := by
  constructor
  · rcases h with h | ⟨o, h⟩
    · exact .inl (k.kept _ _ h n nt)
    · exact .inr ⟨o, k.kept _ _ h n⟩
  · intro z
    rcases k.may a z with z | z
    · exact n z
    · rcases h with h | ⟨o, h⟩
      · rw [z] at h; cases h
      · rw [z] at h; cases h
theorem Kp.no (k : Kp N N' H H') {a : Addr} {u : HO} (h : H a = some u) (n : ¬ N a) : ¬ N' a := fun z => by
  rcases k.may a z with z | z
  · exact n z
  · rw [z] at h; cases h
theorem TupAt.mono (k : Kp N N' H H') {a : Addr} {xs : List V} (h : TupAt K N H a xs) : TupAt K N' H' a xs := by
  rcases h with ⟨ob, h, hd, n⟩ | h
  · exact .inl ⟨ob, k.kept _ _ h n, hd, k.no h n⟩
  · exact .inr h
theorem RoAt.mono (k : Kp N N' H H') {a : Addr} {xs : List V} (h : RoAt K N H a xs) : RoAt K N' H' a xs := by
  rcases h with ⟨h, n⟩ | h
  · exact .inl (k.rd h n)
  · exact .inr h
mutual
theorem Rep.mono (k : Kp N N' H H') : ∀ {v : V} {d : D}, Rep K cl N H v d → Rep K cl N' H' v d
  | _, _, .non => .non
  | _, _, .bl b => .bl b
  | _, _, .int b => .int b
  | _, _, .str b => .str b
  | _, _, .tup h r => .tup (h.mono k) (RepL.mono k r)
  | _, _, .lst h n r => .lst (k.kept _ _ h n) (k.no h n) (RepL.mono k r)
  | _, _, .ro h r => .ro (h.mono k) (RepL.mono k r)
  | _, _, .wt h n r => .wt (k.rd h n).1 (k.rd h n).2 (RepL.mono k r)
  | _, _, .dic h n l r => .dic (k.kept _ _ h n) (k.no h n) l (RepL.mono k r)
  | _, _, .ins h r => .ins (h.imp (fun ⟨i, dx, h, n, l⟩ => ⟨i, dx, k.kept _ _ h n, k.no h n, l⟩) fun z => z.imp (fun ⟨e, c, h, n, l⟩ => ⟨e, c, k.kept _ _ h n, k.no h n, l⟩) id) (RepL.mono k r)
theorem RepL.mono (k : Kp N N' H H') : ∀ {vs : List V} {ds : List D}, RepL K cl N H vs ds → RepL K cl N' H' vs ds
  | _, _, .nil => .nil
  | _, _, .cons h r => .cons (Rep.mono k h) (RepL.mono k r)
end
theorem RepA.mono (k : Kp N N' H H') (hm : ∃ r, m' = m ++ r) {v : V} : ∀ {x : A}, RepA K cl N H m v x → RepA K cl N' H' m' v x
  | .val d, h => Rep.mono k h
  | .ref i, ⟨a, h, e⟩ => by
    obtain ⟨r, rfl⟩ := hm
    exact ⟨a, by rw [List.getElem?_append_left (List.getElem?_eq_some_iff.mp h).1]; exact h, e⟩
theorem RepAs.mono (k : Kp N N' H H') (hm : ∃ r, m' = m ++ r) : ∀ {vs : List V} {xs : List A}, RepAs K cl N H m vs xs → RepAs K cl N' H' m' vs xs
  | _, _, .nil => .nil
  | _, _, .cons h r => .cons (h.mono k hm) (RepAs.mono k hm r)
theorem RepL.length : ∀ {vs : List V} {ds : List D}, RepL K cl N H vs ds → vs.length = ds.length
  | _, _, .nil => rfl
  | _, _, .cons _ r => congrArg (· + 1) r.length
theorem RepL.get : ∀ {vs : List V} {ds : List D} {i : Nat} {v : V}, RepL K cl N H vs ds → vs[i]? = some v → ∃ d, ds[i]? = some d ∧ Rep K cl N H v d
  | _, _, 0, _, .cons h _, e => ⟨_, rfl, by cases e; exact h⟩
  | _, _, i + 1, _, .cons _ r, e => RepL.get (i := i) r e
theorem RepL.got : ∀ {vs : List V} {ds : List D} {i : Nat} {d : D}, RepL K cl N H vs ds → ds[i]? = some d → ∃ v, vs[i]? = some v ∧ Rep K cl N H v d
  | _, _, 0, _, .cons h _, e => ⟨_, rfl, by cases e; exact h⟩
  | _, _, i + 1, _, .cons _ r, e => RepL.got (i := i) r e
theorem RepL.append : ∀ {vs ws : List V} {ds es : List D}, RepL K cl N H vs ds → RepL K cl N H ws es → RepL K cl N H (vs ++ ws) (ds ++ es)
  | _, _, _, _, .nil, s => s
  | _, _, _, _, .cons h r, s => .cons h (r.append s)
theorem RepL.take : ∀ {vs : List V} {ds : List D} (n : Nat), RepL K cl N H vs ds → RepL K cl N H (vs.take n) (ds.take n)
  | _, _, 0, _ => by rw [List.take_zero, List.take_zero]; exact .nil
  | _, _, _ + 1, .nil => .nil
  | _, _, n + 1, .cons h r => .cons h (r.take n)
theorem RepL.drop : ∀ {vs : List V} {ds : List D} (n : Nat), RepL K cl N H vs ds → RepL K cl N H (vs.drop n) (ds.drop n)
  | _, _, 0, r => r
  | _, _, _ + 1, .nil => .nil
  | _, _, n + 1, .cons _ r => r.drop n
theorem RepL.set {v : V} {d : D} (h0 : Rep K cl N H v d) : ∀ {vs : List V} {ds : List D} (n : Nat), RepL K cl N H vs ds → RepL K cl N H (vs.set n v) (ds.set n d)
  | _, _, _, .nil => .nil
  | _, _, 0, .cons _ r => .cons h0 r
  | _, _, n + 1, .cons h r => .cons h (RepL.set h0 n r)
theorem RepL.reverse : ∀ {vs : List V} {ds : List D}, RepL K cl N H vs ds → RepL K cl N H vs.reverse ds.reverse
  | _, _, .nil => .nil
  | _, _, .cons h r => by rw [List.reverse_cons, List.reverse_cons]; exact r.reverse.append (.cons h .nil)

/-! ### a state -/
structure Ok (K : PySem.W.Frag) (cl : ClT) (B : Addr → Prop) (H : Hp) (m : List Addr) (S : Store) : Prop where
  foreign : ∀ a, B a → H a ≠ none ∧ a ∉ m
  len : m.length = S.length
  nd : m.Nodup
  obj : ∀ (i : Nat) (a : Addr) (o : O), m[i]? = some a → S[i]? = some o → RepO K cl (NN B m) H m a o
  tabs : LamX.Tabs cl.T H
structure EnvOk (K : PySem.W.Frag) (cl : ClT) (N : Addr → Prop) (H : Hp) (m : List Addr) (σ : L2.St) (ρ : Slots) : Prop where
  len : ρ.length = σ.length
  get : ∀ (i : Nat) (x : A), ρ[i]? = some (some x) → ∃ v, σ[i]? = some (some v) ∧ RepA K cl N H m v x
structure Step (H : Hp) (m : List Addr) (H' : Hp) (m' : List Addr) : Prop where
  ext : ∃ r, m' = m ++ r ∧ ∀ a ∈ r, H a = none
  keep : ∀ a o, H a = some o → a ∉ m → NT o → H' a = some o
  stay : ∀ a, H a ≠ none → H' a ≠ none
theorem Step.kept {H H' : Hp} {m m' : List Addr} (s : Step H m H' m') (a : Addr) (o : HO) (h : H a = some o) (n : a ∉ m) (nt : NT o := by intro _ z; cases z) : H' a = some o := s.keep a o h n nt
theorem Step.refl {H : Hp} {m : List Addr} : Step H m H m := ⟨⟨[], by simp, by simp⟩, fun _ _ h _ _ => h, fun _ h => h⟩
theorem Step.some {H H' : Hp} {m m' : List Addr} (a : Step H m H' m') {b : Addr} (h : H b ≠ none) : H' b ≠ none := a.stay b h
theorem Step.trans {H H1 H2 : Hp} {m m1 m2 : List Addr} (a : Step H m H1 m1) (b : Step H1 m1 H2 m2) : Step H m H2 m2 := by
  obtain ⟨r, rfl, hr⟩ := a.ext
  obtain ⟨q, rfl, hq⟩ := b.ext
  refine ⟨⟨r ++ q, by rw [List.append_assoc], fun c hc => ?_⟩, fun c o h hc nt => ?_, fun c hn => b.some (a.some hn)⟩
  · rcases List.mem_append.mp hc with hc | hc
    · exact hr c hc
    · cases e : H c with
      | none => rfl
      | some o => exact absurd (hq c hc) (a.some (by rw [e]; exact fun z => by cases z))
  · refine b.keep c o (a.keep c o h hc nt) (fun z => ?_) nt
    rcases List.mem_append.mp z with z | z
    · exact hc z
    · rw [hr c z] at h; cases h
theorem Step.kp {B : Addr → Prop} (s : Step H m H' m') (hB : ∀ a, B a → a ∉ m) : Kp (NN B m) (NN B m') H H' := by
  obtain ⟨r, rfl, hr⟩ := s.ext
  refine ⟨fun a o h n nt => s.keep a o h (fun z => n (.inr z)) nt, fun a z => ?_⟩
  rcases z with z | z
  · exact .inl (.inl z)
  · rcases List.mem_append.mp z with z | z
    · exact .inl (.inr z)
    · exact .inr (hr a z)
theorem EnvOk.mono {σ : L2.St} {ρ : Slots} (k : Kp N N' H H') (hm : ∃ r, m' = m ++ r) (e : EnvOk K cl N H m σ ρ) : EnvOk K cl N' H' m' σ ρ := ⟨e.len, fun i x h => by
  obtain ⟨v, h1, h2⟩ := e.get i x h
  exact ⟨v, h1, h2.mono k hm⟩⟩
theorem EnvOk.set {σ : L2.St} {ρ : Slots} (e : EnvOk K cl N H m σ ρ) (i : Nat) {v : V} {x : A} (h : RepA K cl N H m v x) : EnvOk K cl N H m (σ.set i (some v)) (ρ.set i (some x)) := by
  refine ⟨by rw [List.length_set, List.length_set]; exact e.len, fun j y hj => ?_⟩
  by_cases hij : i = j
  · subst hij
    have hl : i < ρ.length := by
      have := (List.getElem?_eq_some_iff.mp hj).1
      rwa [List.length_set] at this
    rw [List.getElem?_set_self hl] at hj
    cases hj
    exact ⟨v, by rw [List.getElem?_set_self (by rw [← e.len]; exact hl)], h⟩
  · rw [List.getElem?_set_ne hij] at hj
    obtain ⟨w, h1, h2⟩ := e.get j y hj
    exact ⟨w, by rw [List.getElem?_set_ne hij]; exact h1, h2⟩
theorem Step.env {B : Addr → Prop} {S : Store} {σ : L2.St} {ρ : Slots} (s : Step H m H' m') (o : Ok K cl B H m S) (e : EnvOk K cl (NN B m) H m σ ρ) : EnvOk K cl (NN B m') H' m' σ ρ :=
  e.mono (s.kp fun a h => (o.foreign a h).2) (let ⟨r, h, _⟩ := s.ext; ⟨r, h⟩)
theorem Step.rep {B : Addr → Prop} {S : Store} {v : V} {x : A} (s : Step H m H' m') (o : Ok K cl B H m S) (e : RepA K cl (NN B m) H m v x) : RepA K cl (NN B m') H' m' v x :=
  e.mono (s.kp fun a h => (o.foreign a h).2) (let ⟨r, h, _⟩ := s.ext; ⟨r, h⟩)
theorem Step.reps {B : Addr → Prop} {S : Store} {vs : List V} {xs : List A} (s : Step H m H' m') (o : Ok K cl B H m S) (e : RepAs K cl (NN B m) H m vs xs) : RepAs K cl (NN B m') H' m' vs xs :=
  e.mono (s.kp fun a h => (o.foreign a h).2) (let ⟨r, h, _⟩ := s.ext; ⟨r, h⟩)

/-! ### readings out of data -/
/-- an exception's object -/
noncomputable def ExcAt (K : PySem.W.Frag) (cl : ClT) (N : Addr → Prop) (H : Hp) (c : Value) (d : Option Addr) (e : X0) : Prop :=
  c = .ref (cl e.c) ∧ ((e.ns = [] ∧ e.vs = []) ∨ ∃ da xs, d = some da ∧ H da = some (.xd (e.ns.zip xs)) ∧ ¬ N da ∧ e.ns.length = xs.length ∧ RepL K cl N H xs e.vs)
noncomputable def Fin (K : PySem.W.Frag) (cl : ClT) (B : Addr → Prop) (σ : L2.St) (H : Hp) (m : List Addr) (W : WX) (r : Res) (Q : VK) : Prop :=
  match r with
  | .ok x S' => ∀ v H' m', Step H m H' m' → Ok K cl B H' m' S' → RepA K cl (NN B m') H' m' v x → Q v H'
  | .exc e S' => ∀ c d H' m', Step H m H' m' → Ok K cl B H' m' S' → ExcAt K cl (NN B m') H' c d e → W c d σ H'
  | .bad => False
noncomputable def FinL (K : PySem.W.Frag) (cl : ClT) (B : Addr → Prop) (σ : L2.St) (H : Hp) (m : List Addr) (W : WX) (r : LRes) (Q : List V → Hp → Prop) : Prop :=
  match r with
  | .ok xs S' => ∀ vs H' m', Step H m H' m' → Ok K cl B H' m' S' → RepAs K cl (NN B m') H' m' vs xs → Q vs H'
  | .exc e S' => ∀ c d H' m', Step H m H' m' → Ok K cl B H' m' S' → ExcAt K cl (NN B m') H' c d e → W c d σ H'
  | .bad => False
noncomputable def FinT (K : PySem.W.Frag) (cl : ClT) (B : Addr → Prop) (σ : L2.St) (H : Hp) (m : List Addr) (W : WX) (r : Res) (Q : Bool → Hp → Prop) : Prop :=
  match r with
  | .ok (.val (.bl b)) S' => ∀ H' m', Step H m H' m' → Ok K cl B H' m' S' → Q b H'
  | .ok _ _ => False
  | .exc e S' => ∀ c d H' m', Step H m H' m' → Ok K cl B H' m' S' → ExcAt K cl (NN B m') H' c d e → W c d σ H'
  | .bad => False
noncomputable def FinS (K : PySem.W.Frag) (cl : ClT) (B : Addr → Prop) (H : Hp) (m : List Addr) (W : WX) (r : SRes) (E : Ends) : Prop :=
  match r with
  | .nx ρ S' => ∀ σ H' m', Step H m H' m' → Ok K cl B H' m' S' → EnvOk K cl (NN B m') H' m' σ ρ → E.nx σ H'
  | .bk ρ S' => ∀ σ H' m', Step H m H' m' → Ok K cl B H' m' S' → EnvOk K cl (NN B m') H' m' σ ρ → E.bk σ H'
  | .ct ρ S' => ∀ σ H' m', Step H m H' m' → Ok K cl B H' m' S' → EnvOk K cl (NN B m') H' m' σ ρ → E.ct σ H'
  | .rt x S' => ∀ v H' m', Step H m H' m' → Ok K cl B H' m' S' → RepA K cl (NN B m') H' m' v x → E.rt v H'
  | .exc e ρ S' => ∀ c d σ H' m', Step H m H' m' → Ok K cl B H' m' S' → EnvOk K cl (NN B m') H' m' σ ρ → ExcAt K cl (NN B m') H' c d e → W c d σ H'
  | .bad => False
variable (K : PySem.W.Frag) (cl : ClT) (W : WX)
noncomputable def tM (c : CE) : TE := fun σ H Q => ∃ B m S ρ, Ok K cl B H m S ∧ EnvOk K cl (NN B m) H m σ ρ ∧ Fin K cl B σ H m W (c ρ S) Q
noncomputable def tML (c : CA) : TA := fun σ H Q => ∃ B m S ρ, Ok K cl B H m S ∧ EnvOk K cl (NN B m) H m σ ρ ∧ FinL K cl B σ H m W (c ρ S) Q
noncomputable def tMT (c : CE) : TT := fun σ H Q => ∃ B m S ρ, Ok K cl B H m S ∧ EnvOk K cl (NN B m) H m σ ρ ∧ FinT K cl B σ H m W (c ρ S) Q
noncomputable def tMS (c : CS) : TS := fun E σ H => ∃ B m S ρ, Ok K cl B H m S ∧ EnvOk K cl (NN B m) H m σ ρ ∧ FinS K cl B H m W (c ρ S) E
end
section
variable {K : PySem.W.Frag} {cl : ClT} {B : Addr → Prop} {H H1 : Hp} {m m1 : List Addr} {W : WX} {σ : L2.St}
theorem Fin.step (s : Step H m H1 m1) {r : Res} {Q : VK} (h : Fin K cl B σ H m W r Q) : Fin K cl B σ H1 m1 W r Q := by
  cases r with
  | ok x S' => exact fun v H' m' s' o r' => h v H' m' (s.trans s') o r'
  | exc e S' => exact fun c d H' m' s' o r' => h c d H' m' (s.trans s') o r'
  | bad => exact h
theorem FinL.step (s : Step H m H1 m1) {r : LRes} {Q : List V → Hp → Prop} (h : FinL K cl B σ H m W r Q) : FinL K cl B σ H1 m1 W r Q := by
  cases r with
  | ok x S' => exact fun v H' m' s' o r' => h v H' m' (s.trans s') o r'
  | exc e S' => exact fun c d H' m' s' o r' => h c d H' m' (s.trans s') o r'
  | bad => exact h
theorem FinS.step (s : Step H m H1 m1) {r : SRes} {E : Ends} (h : FinS K cl B H m W r E) : FinS K cl B H1 m1 W r E := by
  cases r with
  | nx _ _ => exact fun σ H' m' s' => h σ H' m' (s.trans s')
  | bk _ _ => exact fun σ H' m' s' => h σ H' m' (s.trans s')
  | ct _ _ => exact fun σ H' m' s' => h σ H' m' (s.trans s')
  | rt _ _ => exact fun v H' m' s' => h v H' m' (s.trans s')
  | exc _ _ _ => exact fun c d σ H' m' s' => h c d σ H' m' (s.trans s')
  | bad => exact h
end
/-! ### data's own sequencing -/
abbrev Res.bind (r : Res) (f : A → Store → Res) : Res := match r with
  | .ok x S => f x S
  | .exc e S => .exc e S
  | .bad => .bad
abbrev Res.bindL (r : Res) (f : A → Store → LRes) : LRes := match r with
  | .ok x S => f x S
  | .exc e S => .exc e S
  | .bad => .bad
abbrev LRes.bind (r : LRes) (f : List A → Store → Res) : Res := match r with
  | .ok x S => f x S
  | .exc e S => .exc e S
  | .bad => .bad
abbrev Res.bindS (r : Res) (ρ : Slots) (f : A → Store → SRes) : SRes := match r with
  | .ok x S => f x S
  | .exc e S => .exc e ρ S
  | .bad => .bad
section
variable {K : PySem.W.Frag} {cl : ClT} {B : Addr → Prop} {H H1 : Hp} {m m1 : List Addr} {W : WX} {σ : L2.St}
/-- the head of a bind: its value, then the rest from there -/
theorem Fin.bind {r : Res} {f : A → Store → Res} {Q : VK} {R : VK} (h : Fin K cl B σ H m W (r.bind f) Q)
    (k : ∀ x S' v H' m', Step H m H' m' → Ok K cl B H' m' S' → RepA K cl (NN B m') H' m' v x → Fin K cl B σ H' m' W (f x S') Q → R v H') : Fin K cl B σ H m W r R := by
  cases r with
  | ok x S' => exact fun v H' m' s o r => k x S' v H' m' s o r (Fin.step s h)
  | exc e S' => exact h
  | bad => exact h
theorem Fin.bindL {r : Res} {f : A → Store → LRes} {Q : List V → Hp → Prop} {R : VK} (h : FinL K cl B σ H m W (r.bindL f) Q)
    (k : ∀ x S' v H' m', Step H m H' m' → Ok K cl B H' m' S' → RepA K cl (NN B m') H' m' v x → FinL K cl B σ H' m' W (f x S') Q → R v H') : Fin K cl B σ H m W r R := by
  cases r with
  | ok x S' => exact fun v H' m' s o r => k x S' v H' m' s o r (FinL.step s h)
  | exc e S' => exact h
  | bad => exact h
theorem FinL.bind {r : LRes} {f : List A → Store → Res} {Q : VK} {R : List V → Hp → Prop} (h : Fin K cl B σ H m W (r.bind f) Q)
    (k : ∀ x S' v H' m', Step H m H' m' → Ok K cl B H' m' S' → RepAs K cl (NN B m') H' m' v x → Fin K cl B σ H' m' W (f x S') Q → R v H') : FinL K cl B σ H m W r R := by
  cases r with
  | ok x S' => exact fun v H' m' s o r => k x S' v H' m' s o r (Fin.step s h)
  | exc e S' => exact h
  | bad => exact h
end
end T3
namespace T3
open PySem PySem.Spec PyProof.Rows L2

/-! ### tools -/
theorem PE.imp {X : Cx} {e : Expr} {t u : TE} (h : PE X e t) (k : ∀ σ H Q, u σ H Q → t σ H Q) : PE X e u := ⟨fun pins s σ H Q I q => h.run pins s σ H Q I (k _ _ _ q)⟩
theorem PT.imp {X : Cx} {e : Expr} {t u : TT} (h : PT X e t) (k : ∀ σ H Q, u σ H Q → t σ H Q) : PT X e u := ⟨fun pins s σ H Q I q => h.run pins s σ H Q I (k _ _ _ q)⟩
theorem PA.imp {X : Cx} {e : List Expr} {t u : TA} (h : PA X e t) (k : ∀ σ H Q, u σ H Q → t σ H Q) : PA X e u := ⟨fun pos pins s σ H Q I q => h.run pos pins s σ H Q I (k _ _ _ q)⟩
theorem PS.imp {X : Cx} {st : Stmt} {t u : TS} (h : PS X st t) (k : ∀ E σ H, u E σ H → t E σ H) : PS X st u := ⟨fun pins s σ H E I q => h.run pins s σ H E I (k _ _ _ q)⟩
theorem PSs.imp {X : Cx} {st : List Stmt} {t u : TS} (h : PSs X st t) (k : ∀ E σ H, u E σ H → t E σ H) : PSs X st u := ⟨fun pins s σ H E I q => h.run pins s σ H E I (k _ _ _ q)⟩
noncomputable def szOk (n : Nat) : Bool := decide (n ≤ 16000000)
theorem szOk_line {n : Nat} (h : szOk n = true) : n ≤ sizeLine := Nat.le_trans (of_decide_eq_true h) (by decide)
theorem szOk_lt {n : Nat} (h : szOk n = true) : n < sizeLine := Nat.lt_of_le_of_lt (of_decide_eq_true h) (by decide)

section
variable {K : PySem.W.Frag} {cl : ClT} {N N' : Addr → Prop} {B : Addr → Prop} {H H' : Hp} {m : List Addr} {S : Store} {W : WX} {σ : L2.St} {Q : VK}
/-- fewer things may change -/
theorem TupAt.weak (h : ∀ a, N a → N' a) {a : Addr} {xs : List V} (t : TupAt K N' H a xs) : TupAt K N H a xs := by
  rcases t with ⟨ob, t, hd, n⟩ | t
  · exact .inl ⟨ob, t, hd, fun z => n (h a z)⟩
  · exact .inr t
theorem RoAt.weak (h : ∀ a, N a → N' a) {a : Addr} {xs : List V} (t : RoAt K N' H a xs) : RoAt K N H a xs := by
  rcases t with ⟨t, n⟩ | t
  · exact .inl ⟨t, fun z => n (h a z)⟩
  · exact .inr t
mutual
theorem Rep.weak (h : ∀ a, N a → N' a) : ∀ {v : V} {d : D}, Rep K cl N' H v d → Rep K cl N H v d
  | _, _, .non => .non
  | _, _, .bl b => .bl b
  | _, _, .int b => .int b
  | _, _, .str b => .str b
  | _, _, .tup t r => .tup (t.weak h) (RepL.weak h r)
  | _, _, .lst e n r => .lst e (fun z => n (h _ z)) (RepL.weak h r)
  | _, _, .ro t r => .ro (t.weak h) (RepL.weak h r)
  | _, _, .wt t n r => .wt t (fun z => n (h _ z)) (RepL.weak h r)
  | _, _, .dic e n l r => .dic e (fun z => n (h _ z)) l (RepL.weak h r)
  | _, _, .ins t r => .ins (t.imp (fun ⟨i, dx, e, n, l⟩ => ⟨i, dx, e, fun z => n (h _ z), l⟩) fun z => z.imp (fun ⟨e, c, x, n, l⟩ => ⟨e, c, x, fun z => n (h _ z), l⟩) id) (RepL.weak h r)
theorem RepL.weak (h : ∀ a, N a → N' a) : ∀ {vs : List V} {ds : List D}, RepL K cl N' H vs ds → RepL K cl N H vs ds
  | _, _, .nil => .nil
  | _, _, .cons t r => .cons (Rep.weak h t) (RepL.weak h r)
end
/-- what stands in the store is there -/
theorem RepO.there {a : Addr} {o : O} (h : RepO K cl N H m a o) : H a ≠ none := by
  cases o with
  | lst ds => obtain ⟨xs, e, _⟩ := h; rw [e]; exact fun z => by cases z
  | dic ks ds => obtain ⟨xs, e, _⟩ := h; rw [e]; exact fun z => by cases z
  | ins c ns zs => obtain ⟨dx, xs, e, _⟩ := h; rw [e]; exact fun z => by cases z
theorem nt_of {v : HO} (h : (∃ xs, v = .lst xs) ∨ (∃ xs, v = .dK xs) ∨ ∃ a b c, v = .ins a b c) : NT v ∧ ∀ φ, v ≠ .ext φ := by
  rcases h with ⟨_, rfl⟩ | ⟨_, rfl⟩ | ⟨_, _, _, rfl⟩ <;> constructor <;> intro _ z <;> cases z
theorem RepO.nt {a : Addr} {o : O} (h : RepO K cl N H m a o) {v : HO} (e : H a = some v) : NT v ∧ ∀ φ, v ≠ .ext φ := by
  cases o with
  | lst ds => obtain ⟨xs, e', _⟩ := h; rw [e'] at e; cases e; exact nt_of (.inl ⟨_, rfl⟩)
  | dic ks ds => obtain ⟨xs, e', _⟩ := h; rw [e'] at e; cases e; exact nt_of (.inr (.inl ⟨_, rfl⟩))
  | ins c ns zs => obtain ⟨dx, xs, e', _⟩ := h; rw [e'] at e; cases e; exact nt_of (.inr (.inr ⟨_, _, _, rfl⟩))
theorem Ok.at (o : Ok K cl B H m S) {i : Nat} {u : O} (h : S[i]? = some u) : ∃ a, m[i]? = some a ∧ RepO K cl (NN B m) H m a u := by
  have hl : i < m.length := by rw [o.len]; exact (List.getElem?_eq_some_iff.mp h).1
  exact ⟨m[i], List.getElem?_eq_getElem hl, o.obj i _ u (List.getElem?_eq_getElem hl) h⟩
theorem Ok.may (o : Ok K cl B H m S) {a : Addr} (h : NN B m a) : H a ≠ none := by
  rcases h with h | h
  · exact (o.foreign a h).1
  · obtain ⟨i, hi⟩ := List.mem_iff_getElem?.mp h
    have hl : i < S.length := by rw [← o.len]; exact (List.getElem?_eq_some_iff.mp hi).1
    exact (o.obj i a _ hi (List.getElem?_eq_getElem hl)).there
/-- what stands at an address of the store's own -/
theorem Ok.nt (o : Ok K cl B H m S) {a : Addr} (h : a ∈ m) : ∃ v, H a = some v ∧ NT v ∧ ∀ φ, v ≠ .ext φ := by
  obtain ⟨i, hi⟩ := List.mem_iff_getElem?.mp h
  have hl : i < S.length := by rw [← o.len]; exact (List.getElem?_eq_some_iff.mp hi).1
  have r := o.obj i a _ hi (List.getElem?_eq_getElem hl)
  cases e : H a with
  | none => exact absurd e r.there
  | some v => exact ⟨v, rfl, RepO.nt r e⟩
theorem Ok.fresh (o : Ok K cl B H m S) {p : Addr} (h : H p = none) : ¬ NN B m p := fun z => o.may z h
/-- a new object -/
theorem Step.new {p : Addr} {u : HO} (h : H p = none) : Step H m (upd H p u) m := ⟨⟨[], by simp, by simp⟩, fun a x e _ _ => by rw [upd_ne (ne_of_none e h)]; exact e, fun a e => by
  by_cases z : a = p
  · rw [z, upd_same]; exact fun q => by cases q
  · rw [upd_ne z]; exact e⟩
theorem Kp.new {p : Addr} {u : HO} (h : H p = none) : Kp N N H (upd H p u) := ⟨fun a x e _ _ => by rw [upd_ne (ne_of_none e h)]; exact e, fun _ z => .inl z⟩
theorem RepO.mono {N N' : Addr → Prop} {H H' : Hp} {m m' : List Addr} (k : Kp N N' H H') (hm : ∃ r, m' = m ++ r) {a : Addr} {u : O} (h : RepO K cl N H m a u) (e : H' a = H a) : RepO K cl N' H' m' a u := by
  cases u with
  | lst ds => obtain ⟨xs, e1, r⟩ := h; exact ⟨xs, e.trans e1, r.mono k⟩
  | dic ks ds => obtain ⟨xs, e1, l, r⟩ := h; exact ⟨xs, e.trans e1, l, r.mono k⟩
  | ins c ns zs => obtain ⟨dx, xs, e1, l, r⟩ := h; exact ⟨dx, xs, e.trans e1, l, r.mono k hm⟩
/-- tables stay where nothing of theirs is written -/
theorem tabs_upd {T : List (Addr × Str)} {H : Hp} {p : Addr} {u : HO} (h : H p = none ∨ (∃ o, H p = some o ∧ NT o ∧ ∀ φ, o ≠ .ext φ)) (t : LamX.Tabs T H) : LamX.Tabs T (upd H p u) := by
  intro q hq
  obtain ⟨ps, h1, h2, h3⟩ := t q hq
  have ne : ∀ {b : Addr} {o : HO}, H b = some o → (¬ NT o ∨ ∃ φ, o = .ext φ) → b ≠ p := fun {b o} e ht z => by
    rw [z] at e
    rcases h with h | ⟨o', h, n1, n2⟩
    · rw [h] at e; cases e
    · rw [h] at e
      cases e
      rcases ht with ht | ⟨φ, ht⟩
      · exact ht n1
      · exact n2 φ ht
  refine ⟨ps, by rw [upd_ne (ne h1 (.inl fun z => z ps rfl))]; exact h1, h2, fun pos cv hc => ?_⟩
  obtain ⟨c, e1, e2⟩ := h3 pos cv hc
  exact ⟨c, e1, by rw [upd_ne (ne e2 (.inr ⟨_, rfl⟩))]; exact e2⟩
theorem Ok.new (o : Ok K cl B H m S) {p : Addr} {u : HO} (h : H p = none) : Ok K cl B (upd H p u) m S := by
  refine ⟨fun a z => ⟨(Step.new h (m := m)).some (o.foreign a z).1, (o.foreign a z).2⟩, o.len, o.nd, fun i a x hi hx => ?_, tabs_upd (.inl h) o.tabs⟩
  have r := o.obj i a x hi hx
  exact r.mono (Kp.new h) ⟨[], by simp⟩ (upd_ne (fun z => r.there (z ▸ h)))
/-- a new object of the store -/
theorem Step.adopt {p : Addr} {u : HO} (h : H p = none) : Step H m (upd H p u) (m ++ [p]) :=
  ⟨⟨[p], rfl, fun a ha => by rw [List.mem_singleton.mp ha]; exact h⟩, fun a o e hn nt => (Step.new h).keep a o e hn nt, (Step.new h (m := m)).stay⟩
theorem Kp.adopt {p : Addr} {u : HO} (h : H p = none) : Kp (NN B m) (NN B (m ++ [p])) H (upd H p u) := ⟨fun a x e _ _ => by rw [upd_ne (ne_of_none e h)]; exact e, fun a z => by
  rcases z with z | z
  · exact .inl (.inl z)
  · rcases List.mem_append.mp z with z | z
    · exact .inl (.inr z)
    · rw [List.mem_singleton.mp z]; exact .inr h⟩
theorem Ok.adopt (o : Ok K cl B H m S) {p : Addr} {u : HO} {x : O} (h : H p = none) (r : RepO K cl (NN B (m ++ [p])) (upd H p u) (m ++ [p]) p x) : Ok K cl B (upd H p u) (m ++ [p]) (S ++ [x]) := by
  have hp : p ∉ m := fun z => o.may (.inr z) h
  refine ⟨fun a z => ⟨(Step.new h (m := m)).some (o.foreign a z).1, fun q => ?_⟩, by simp [o.len], ?_, fun i a y hi hy => ?_, tabs_upd (.inl h) o.tabs⟩
  · rcases List.mem_append.mp q with q | q
    · exact (o.foreign a z).2 q
    · rw [List.mem_singleton.mp q] at z; exact (o.foreign p z).1 h
  · rw [List.nodup_append]
    exact ⟨o.nd, by simp, fun a ha b hb => by rw [List.mem_singleton.mp hb]; exact fun e => hp (e ▸ ha)⟩
  · by_cases hl : i < m.length
    · rw [List.getElem?_append_left hl] at hi
      rw [List.getElem?_append_left (by rw [← o.len]; exact hl)] at hy
      have q := o.obj i a y hi hy
      exact q.mono (Kp.adopt h) ⟨[p], rfl⟩ (upd_ne (fun z => q.there (z ▸ h)))
    · have hi' := (List.getElem?_eq_some_iff.mp hi).1
      have e : i = m.length := by simp at hi'; omega
      subst e
      rw [List.getElem?_append_right (Nat.le_refl _)] at hi
      rw [o.len, List.getElem?_append_right (Nat.le_refl _)] at hy
      simp at hi hy
      subst hi hy
      exact r
/-- a new list: what it becomes in the data (fr: nobody changes it) -/
noncomputable def mkL (fr : Bool) (ds : List D) (S : Store) : Res := if fr then .ok (.val (.lst ds)) S else .ok (.ref S.length) (S ++ [.lst ds])
theorem mkL_ok {fr : Bool} {ds : List D} {xs : List V} {p : Addr} (o : Ok K cl B H m S) (r : RepL K cl (NN B m) H xs ds) (hp : H p = none) (h : Fin K cl B σ H m W (mkL fr ds S) Q) : Q (.ref p) (upd H p (.lst xs)) := by
  cases fr with
  | true => exact h _ _ _ (Step.new hp) (o.new hp) (.lst upd_same (o.fresh hp) (r.mono (Kp.new hp)))
  | false => exact h _ _ _ (Step.adopt hp) (o.adopt hp ⟨xs, upd_same, r.mono (Kp.adopt hp)⟩) ⟨p, by rw [← o.len, List.getElem?_append_right (Nat.le_refl _)]; simp, rfl⟩
/-- what is wanted of a new tuple -/
noncomputable def NewT (xs : List V) (H : Hp) (Q : VK) : Prop := ∀ (p : Addr) (ob : Obj), ob.dict = none → H p = none → Q (.ref p) (upd H p (.frz ob (.tup xs)))
theorem mkT_ok {ds : List D} {xs : List V} (o : Ok K cl B H m S) (r : RepL K cl (NN B m) H xs ds) (h : Fin K cl B σ H m W (.ok (.val (.tup ds)) S) Q) : NewT xs H Q :=
  fun p ob hd hp => h _ _ _ (Step.new hp) (o.new hp) (.tup (.inl ⟨ob, upd_same, hd, o.fresh hp⟩) (r.mono (Kp.new hp)))
/-- a value at hand -/
theorem Fin.here {x : A} {v : V} (h : Fin K cl B σ H m W (.ok x S) Q) (o : Ok K cl B H m S) (r : RepA K cl (NN B m) H m v x) : Q v H := h v H m Step.refl o r

/-! ### views -/
noncomputable def valsOf : List A → Option (List D)
  | [] => some []
  | .val d :: r => (valsOf r).map (d :: ·)
  | .ref _ :: _ => none
theorem valsOf_ok : ∀ {vs : List V} {xs : List A} {ds : List D}, RepAs K cl N H m vs xs → valsOf xs = some ds → RepL K cl N H vs ds
  | _, _, _, .nil, h => by cases h; exact .nil
  | _, _, _, .cons (x := .val d) r q, h => by
    simp only [valsOf, Option.map_eq_some_iff] at h
    obtain ⟨ds, h, rfl⟩ := h
    exact .cons r (valsOf_ok q h)
  | _, _, _, .cons (x := .ref _) _ _, h => by cases h
/-- a list that is read -/
noncomputable def asL (S : Store) : A → Option (List D)
  | .val (.lst ds) => some ds
  | .val (.ro ds) => some ds
  | .ref i => match S[i]? with
    | some (.lst ds) => some ds
    | _ => none
  | _ => none
/-- a list of our own making -/
noncomputable def asM (S : Store) : A → Option (List D)
  | .val (.lst ds) => some ds
  | .ref i => match S[i]? with
    | some (.lst ds) => some ds
    | _ => none
  | _ => none
noncomputable def asT : A → Option (List D)
  | .val (.tup ds) => some ds
  | _ => none
theorem asL_ok (o : Ok K cl B H m S) {v : V} {x : A} {ds : List D} (r : RepA K cl (NN B m) H m v x) (h : asL S x = some ds) : ∃ a vs, v = .ref a ∧ SqL K H a vs ∧ RepL K cl (NN B m) H vs ds := by
  cases x with
  | ref i =>
    obtain ⟨a, ha, rfl⟩ := r
    simp only [asL] at h
    split at h <;> cases h
    rename_i hs
    obtain ⟨xs, e, q⟩ := o.obj i a _ ha hs
    exact ⟨a, xs, rfl, .of e, q⟩
  | val d =>
    cases d <;> simp only [asL] at h <;> cases h
    · cases r with
      | lst e n q => exact ⟨_, _, rfl, .of e, q⟩
    · cases r with
      | ro e q => exact ⟨_, _, rfl, e.seq, q⟩
theorem asM_ok (o : Ok K cl B H m S) {v : V} {x : A} {ds : List D} (r : RepA K cl (NN B m) H m v x) (h : asM S x = some ds) : ∃ a vs, v = .ref a ∧ H a = some (.lst vs) ∧ RepL K cl (NN B m) H vs ds := by
  cases x with
  | ref i =>
    obtain ⟨a, ha, rfl⟩ := r
    simp only [asM] at h
    split at h <;> cases h
    rename_i hs
    obtain ⟨xs, e, q⟩ := o.obj i a _ ha hs
    exact ⟨a, xs, rfl, e, q⟩
  | val d =>
    cases d <;> simp only [asM] at h <;> cases h
    cases r with
    | lst e n q => exact ⟨_, _, rfl, e, q⟩
theorem asT_ok {v : V} {x : A} {ds : List D} (r : RepA K cl N H m v x) (h : asT x = some ds) : ∃ a vs, v = .ref a ∧ SqT K H a vs ∧ RepL K cl N H vs ds := by
  cases x with
  | ref i => cases h
  | val d =>
    cases d <;> simp only [asT] at h <;> cases h
    cases r with
    | tup e q => exact ⟨_, _, rfl, e.seq, q⟩
end
end T3
namespace T3
open PySem PySem.Spec PyProof.Rows L2
/-! ### new tuples, told with their very objects (they bear no dict) -/
section
variable {X : Cx} {pins : List (Addr × Obj)} {σ : L2.St} {H : Hp} {s : Shared} {Q : VK}
theorem laidZ {its : List Value} {xs : List V} {n : Nat} {t' : Nat} (I : Inv X pins σ H s) (r : Vals xs its) (hz : xs.length ≤ sizeLine) (h : NewT xs H Q) :
    ∃ v H', Inv X pins σ H' { s with heap := s.heap.push { cls := .type "tuple", data := .seq its.toArray n }, toks := t' } ∧ RelV v (.ref s.heap.objs.size) ∧ Q v H' := by
  have e := Heap.get?_push_size (o := { cls := .type "tuple", data := .seq its.toArray n }) s.heap rfl
  refine ⟨.ref s.heap.objs.size, _, I.laid (t' := t') (o := .frz { cls := .type "tuple", data := .seq its.toArray n } (.tup xs)) (fun b u q => Heap.get?_push_of_some _ q) (Nat.le_refl _) ?_, rfl, h _ _ rfl (I.hok.fresh (Nat.le_refl _))⟩
  exact ⟨e, hz, its, r, ⟨_, e, rfl, n, rfl⟩⟩
end
section
variable {X : Cx}
noncomputable def tTupZ (ta : TA) : TE := fun σ H Q => ta σ H fun xs H1 => xs.length ≤ sizeLine ∧ NewT xs H1 Q
theorem pe_tupZ {es : List Expr} {t : TA} {x1} {pos : Pos} (h : PA X es t) : PE X (.Tuple es x1 pos) (tTupZ t) := by
  refine ⟨fun pins s σ H Q I hq => wpAny_Tuple_spliced (thn (h.run pos pins s σ H _ I hq) fun us s1 w => ?_)⟩
  obtain ⟨xs, H1, I1, r, z, q⟩ := w
  obtain ⟨v, H2, I2, rv, q2⟩ := laidZ (n := 0) (t' := s1.toks) I1 r z q
  exact ⟨by rw [← r.length]; exact z, v, H2, I2, rv, q2⟩
noncomputable def rTupZ (K : PySem.W.Frag) : List V → Hp → VK → Prop := fun xs H Q => ∃ p ys, xs = [.ref p] ∧ ((SqL K H p ys ∧ NewT ys H Q) ∨ (SqT K H p ys ∧ Q (.ref p) H))
theorem call_tupleZ : CallR X (.type "tuple") (rTupZ X.K) := by
  intro pins s σ H xs us Q I r h
  obtain ⟨p, ys, rfl, h⟩ := h
  obtain ⟨u, rfl, rx⟩ := vals1 r
  cases rx
  rcases h with h | h
  · obtain ⟨its, r2, pl, hz⟩ := I.list h.1
    have hlen := r2.length
    refine call_tuple_list pl.isList (fun h' kp => ?_) (by rw [List.size_toArray]; omega)
    have I1 : Inv X pins σ H { s with heap := h' } := I.kept (t' := s.toks) kp
    obtain ⟨v, H2, I2, rv, q2⟩ := laidZ (n := 0) (t' := s.toks) I1 r2 hz h.2
    exact ⟨v, H2, I2, rv, q2⟩
  · obtain ⟨its, r2, pl, hz⟩ := I.tuple h.1
    exact call_tuple_same pl ⟨.ref p, H, I, rfl, h.2⟩
noncomputable def rDmZ : List V → Hp → VK → Prop := fun xs H Q => ∃ i j, xs = [.int i, .int j] ∧ CDiv i j ∧ NewT [.int (i / j), .int (i % j)] H Q
theorem call_divmodZ : CallR X (.builtin "divmod") rDmZ := by
  intro pins s σ H xs us Q I r h
  obtain ⟨i, j, rfl, c, q⟩ := h
  have c1 := c.1
  have c2 := c.2
  obtain ⟨u, w', rfl, ⟨t, rfl⟩, ⟨t', rfl⟩⟩ := vals2 r
  refine divmod_int (by omega) ?_ (.inl (PyProof.noPylong_small (by omega)))
  rw [Int.fdiv_eq_ediv_of_nonneg i (by omega), Int.fmod_eq_emod_of_nonneg i (by omega)]
  obtain ⟨v, H2, I2, rv, q2⟩ := laidZ (xs := [.int (i / j), .int (i % j)]) (its := [.int (i / j) s.toks, .int (i % j) (s.toks + 1)]) (n := 0) (t' := s.toks + 2) I (.cons ⟨_, rfl⟩ (.cons ⟨_, rfl⟩ .nil)) (by show 2 ≤ sizeLine; rw [sizeLine_eq]; decide) q
  exact ⟨v, H2, I2, rv, q2⟩
noncomputable def rSlZ (K : PySem.W.Frag) : V → Option Int → Option Int → Hp → VK → Prop := fun x lo hi H Q => ∃ a xs, x = .ref a ∧ SqT K H a xs ∧
  (HT.sIx xs.length 0 lo = 0 ∧ HT.sIx xs.length xs.length hi = xs.length → Q (.ref a) H) ∧ (¬ (HT.sIx xs.length 0 lo = 0 ∧ HT.sIx xs.length xs.length hi = xs.length) → NewT (cutV xs lo hi) H Q)
theorem sl_tupZ : SlR X (rSlZ X.K) := by
  intro pins s σ H x v vl vu lo hi sl Q I rx hs pl pu h
  obtain ⟨a, xs, rfl, hx, q1, q2⟩ := h
  by_cases hw : HT.sIx xs.length 0 lo = 0 ∧ HT.sIx xs.length xs.length hi = xs.length
  · exact sl_tupA pins s σ H _ v vl vu lo hi sl Q I rx hs pl pu ⟨a, xs, rfl, hx, q1, fun z => absurd hw z⟩
  · cases rx
    obtain ⟨its, r, ht, hz⟩ := I.tuple hx
    have hlen : its.toArray.size = xs.length := by rw [List.size_toArray, r.length]
    refine ⟨"tuple", _, PyProof.Rows.slot_tuple_getitem.lookup, ht.typeIs, HT.getItem_tuple_cut ht hs pl pu (by rw [hlen]; exact hw) ?_ (by rw [hlen]; exact hz)⟩
    rw [hlen]
    obtain ⟨v, H2, I2, rv, q3⟩ := laidZ (n := 0) (t' := s.toks) I ((r.drop (HT.sIx xs.length 0 lo)).take (HT.sIx xs.length xs.length hi - HT.sIx xs.length 0 lo)) (Nat.le_trans (cutV_length xs lo hi) hz) (q2 hw)
    exact ⟨v, H2, I2, rv, q3⟩
noncomputable def rCatZ (K : PySem.W.Frag) : R2 := fun x y H Q => ∃ a b xs ys, x = .ref a ∧ y = .ref b ∧ SqT K H a xs ∧ SqT K H b ys ∧ xs.length + ys.length ≤ sizeLine ∧
  (xs = [] → Q (.ref b) H) ∧ (xs ≠ [] → ys = [] → Q (.ref a) H) ∧ (xs ≠ [] → ys ≠ [] → NewT (xs ++ ys) H Q)
theorem op_catZ : OpR X (binaryOp .Add) (rCatZ X.K) := by
  intro pins s σ H x y v u Q I rx ry h
  obtain ⟨a, b, xs, ys, rfl, rfl, ha, hb, hz, q0, q1, q2⟩ := h
  by_cases hx : xs = []
  · exact op_catA pins s σ H _ _ v u Q I rx ry ⟨a, b, xs, ys, rfl, rfl, ha, hb, hz, q0, q1, fun z => absurd hx z⟩
  · cases rx
    cases ry
    obtain ⟨its, r1, p1, _⟩ := I.tuple ha
    obtain ⟨its2, r2, p2, _⟩ := I.tuple hb
    refine HT.cat_tup p1 p2 (fun z => hx (r1.nil_iff.mp z)) (fun z => ⟨.ref a, H, I, rfl, q1 hx (r2.nil_iff.mp z)⟩) (fun z => ?_) (by rw [← r1.length, ← r2.length]; exact hz)
    obtain ⟨v, H2, I2, rv, q3⟩ := laidZ (n := 0) (t' := s.toks) I (r1.append r2) (by rw [List.length_append]; exact hz) (q2 hx fun w => z (r2.nil_iff.mpr w))
    exact ⟨v, H2, I2, rv, q3⟩
/-- t * k -/
noncomputable def rRepZ (K : PySem.W.Frag) : R2 := fun x y H Q => ∃ l k xs, x = .ref l ∧ y = .int k ∧ SqT K H l xs ∧ xs ≠ [] ∧ 2 ≤ k ∧ k ≤ 1000 ∧ xs.length ≤ 1000 ∧ NewT (List.replicate k.toNat xs).flatten H Q
theorem op_repZ : OpR X (binaryOp .Mult) (rRepZ X.K) := by
  intro pins s σ H x y v u Q I rx ry h
  obtain ⟨l, k, xs, rfl, rfl, hT, hne, h1, h2, hz, q⟩ := h
  cases rx
  obtain ⟨t, rfl⟩ := ry
  obtain ⟨its, r, ⟨⟨cls, dd, data, sl⟩, ho, hc, n, hd⟩, hs⟩ := I.tuple hT
  simp only at hc hd
  subst hc hd
  have hle : its.length = xs.length := r.length.symm
  have hi : its.toArray.isEmpty = false := by
    cases its with
    | nil => exact absurd (List.eq_nil_of_length_eq_zero hle.symm) hne
    | cons a b => rfl
  have sz : its.toArray.size = xs.length := by rw [List.size_toArray, hle]
  have kz : k.toNat * xs.length ≤ 1000 * 1000 := Nat.mul_le_mul (by omega) hz
  have hm : ((its.toArray.size : Nat) : Int) * k ≤ 1000000 := by
    rw [sz]
    have := Int.mul_le_mul_of_nonneg_right (show ((xs.length : Nat) : Int) ≤ 1000 by omega) (show 0 ≤ k by omega)
    omega
  have flen : (List.replicate k.toNat its).flatten.length ≤ sizeLine := by
    rw [PyProof.Rows.lm_len_rep_flat, hle, sizeLine_eq]
    omega
  have c0 : (decide (k < -(2 ^ 63)) || decide (k ≥ 2 ^ 63)) = false := by
    rw [Bool.or_eq_false_iff]
    exact ⟨decide_eq_false (by omega), decide_eq_false (by omega)⟩
  have c1 : (its.toArray.isEmpty || k == 1) = false := by
    rw [Bool.or_eq_false_iff]
    exact ⟨hi, beq_eq_false_iff_ne.mpr (by omega)⟩
  have c2 : (decide (k ≤ 0) || its.toArray.isEmpty) = false := by
    rw [Bool.or_eq_false_iff]
    exact ⟨decide_eq_false (by omega), hi⟩
  have c4 : Builtin.Tuple.tupleTooMany (((its.toArray.size : Nat) : Int) * k) = false := by
    unfold Builtin.Tuple.tupleTooMany
    exact decide_eq_false (by rw [sizeLine_eq]; omega)
  have last := laidZ (n := 0) (t' := s.toks) I (r.rep k.toNat) (by rw [PyProof.Rows.lm_len_rep_flat, sizeLine_eq]; omega) q
  refine wpAny_binaryOp_repeat_ref (T := "tuple") (U := "int") (by decide) ⟨_, ho, rfl⟩ (fun s' => typeIs_int s' k t) noFill_tuple_mul F.fills_int_mul F.slot_int_rmul repeat_tuple F.slot_int_index.lookup
    (call_meets F.slot_int_rmul (typeIs_int s k t) F.entry_int_rmul (F.args_int_rmul_2 _ _) (int_rmul_tuple k t l its.toArray n dd sl) ⟨ho, rfl, ⟨_, ho, rfl⟩, ?_⟩)
  refine call_meets F.slot_tuple_mul ⟨_, ho, rfl⟩ F.entry_tuple_mul (F.args_tuple_mul_2 _ _) (tuple_mulW l its.toArray n dd sl k t c0 c1 c2 (by omega) c4 (by rw [size_rep, List.size_toArray]; exact flen)) ⟨ho, ?_⟩
  rw [size_rep]
  obtain ⟨v, H2, I2, rv, q3⟩ := last
  exact ⟨v, H2, I2, rv, q3⟩
end
end T3
namespace T3
open PySem PySem.Spec PyProof.Rows L2

/-! ### expressions -/
noncomputable def cV (i : Nat) : CE := fun ρ S => match ρ[i]? with
  | some (some x) => .ok x S
  | _ => .bad
noncomputable def cK (d : D) : CE := fun _ S => .ok (.val d) S
abbrev cI (i : Int) : CE := cK (.int i)
abbrev cB (b : Bool) : CE := cK (.bl b)
abbrev cN : CE := cK .non
abbrev cS (s : Str) : CE := cK (.str s)
noncomputable def cBin (f : A → A → Store → Res) (ca cb : CE) : CE := fun ρ S => (ca ρ S).bind fun x S1 => (cb ρ S1).bind fun y S2 => f x y S2
noncomputable def cUn (f : A → Store → Res) (ca : CE) : CE := fun ρ S => (ca ρ S).bind f
noncomputable def cNil : CA := fun _ S => .ok [] S
noncomputable def cCons (c : CE) (r : CA) : CA := fun ρ S => match c ρ S with
  | .ok x S1 => (match r ρ S1 with
    | .ok xs S2 => .ok (x :: xs) S2
    | .exc e S2 => .exc e S2
    | .bad => .bad)
  | .exc e S1 => .exc e S1
  | .bad => .bad
noncomputable def cTup (c : CA) : CE := fun ρ S => (c ρ S).bind fun xs S1 => match valsOf xs with
  | some ds => if szOk ds.length then .ok (.val (.tup ds)) S1 else .bad
  | none => .bad
noncomputable def cLst (fr : Bool) (c : CA) : CE := fun ρ S => (c ρ S).bind fun xs S1 => match valsOf xs with
  | some ds => if szOk ds.length then mkL fr ds S1 else .bad
  | none => .bad
/-- truth -/
noncomputable def tru (S : Store) : A → Option Bool
  | .val .non => some false
  | .val (.bl b) => some b
  | .val (.int i) => some (i != 0)
  | .val (.str s) => if szOk s.length then some (s.length != 0) else none
  | .val (.tup ds) => some (!ds.isEmpty)
  | x => match asL S x with
    | some ds => some (!ds.isEmpty)
    | none => none
noncomputable def cIf (ct ca cb : CE) : CE := fun ρ S => (ct ρ S).bind fun x S1 => match x with
  | .val (.bl true) => ca ρ S1
  | .val (.bl false) => cb ρ S1
  | _ => .bad
/-- a test by truth: the bool -/
noncomputable def cTru (c : CE) : CE := fun ρ S => (c ρ S).bind fun x S1 => match tru S1 x with
  | some b => .ok (.val (.bl b)) S1
  | none => .bad
/-- and, or as tests of bools -/
noncomputable def cAnd (c d : CE) : CE := cIf c d (cB false)
noncomputable def cOr (c d : CE) : CE := cIf c (cB true) d
noncomputable def cNot (c : CE) : CE := cIf c (cB false) (cB true)

section
variable {X : Cx} {cl : ClT} {W : WX}
/-- what a rule on two values asks: the data's own step -/
noncomputable def OpOk (K : PySem.W.Frag) (cl : ClT) (r : R2) (f : A → A → Store → Res) : Prop :=
  ∀ {B : Addr → Prop} {H : Hp} {m : List Addr} {S : Store} {σ : L2.St} {W : WX} {v w : V} {x y : A} {Q : VK}, Ok K cl B H m S → RepA K cl (NN B m) H m v x → RepA K cl (NN B m) H m w y → Fin K cl B σ H m W (f x y S) Q → r v w H Q
noncomputable def UnOk (K : PySem.W.Frag) (cl : ClT) (r : V → Hp → VK → Prop) (f : A → Store → Res) : Prop :=
  ∀ {B : Addr → Prop} {H : Hp} {m : List Addr} {S : Store} {σ : L2.St} {W : WX} {v : V} {x : A} {Q : VK}, Ok K cl B H m S → RepA K cl (NN B m) H m v x → Fin K cl B σ H m W (f x S) Q → r v H Q
noncomputable def CaOk (K : PySem.W.Frag) (cl : ClT) (r : List V → Hp → VK → Prop) (f : List A → Store → Res) : Prop :=
  ∀ {B : Addr → Prop} {H : Hp} {m : List Addr} {S : Store} {σ : L2.St} {W : WX} {vs : List V} {xs : List A} {Q : VK}, Ok K cl B H m S → RepAs K cl (NN B m) H m vs xs → Fin K cl B σ H m W (f xs S) Q → r vs H Q
noncomputable def MtOk (K : PySem.W.Frag) (cl : ClT) (r : V → List V → Hp → VK → Prop) (f : A → List A → Store → Res) : Prop :=
  ∀ {B : Addr → Prop} {H : Hp} {m : List Addr} {S : Store} {σ : L2.St} {W : WX} {v : V} {x : A} {vs : List V} {xs : List A} {Q : VK}, Ok K cl B H m S → RepA K cl (NN B m) H m v x → RepAs K cl (NN B m) H m vs xs → Fin K cl B σ H m W (f x xs S) Q → r v vs H Q

theorem pm_v (i : Nat) {x : Str} {pos : Pos} (hN : X.N[i]? = some x := by rfl) (hv : Vis X.env.scope x := by first | exact Or.inl rfl | exact Or.inr (Or.inl rfl) | exact Or.inr (Or.inr rfl)) (hd : (x == ("__debug__" : Str)) = false := by decide)
    (hcd : (x == ("__classdict__" : Str)) = false := by decide) : PE X (.Name x pos) (tM X.K cl W (cV i)) := by
  refine PE.imp (pe_var hN hv hd hcd) fun σ H Q h => ?_
  obtain ⟨B, m, S, ρ, o, e, f⟩ := h
  show ∃ v, σ[i]? = some (some v) ∧ Q v H
  unfold cV at f
  split at f
  · rename_i x hx
    obtain ⟨v, h1, h2⟩ := e.get i x hx
    exact ⟨v, h1, f.here o h2⟩
  · exact f.elim
theorem pm_c {e : Expr} {v : V} {d : D} (h : PE X e (tC v)) (r : ∀ N H, Rep X.K cl N H v d) : PE X e (tM X.K cl W (cK d)) := by
  refine PE.imp h fun σ H Q h => ?_
  obtain ⟨B, m, S, ρ, o, e, f⟩ := h
  exact f.here o (x := .val d) (r _ _)
theorem pm_int {i j pos} : PE X (.Constant (.int i) j pos) (tM X.K cl W (cI i)) := pm_c pe_int fun _ _ => .int i
theorem pm_bl {b j pos} : PE X (.Constant (.bool b) j pos) (tM X.K cl W (cB b)) := pm_c pe_bl fun _ _ => .bl b
theorem pm_non {j pos} : PE X (.Constant .none j pos) (tM X.K cl W cN) := pm_c pe_non fun _ _ => .non
theorem pm_str {x j pos} : PE X (.Constant (.str x) j pos) (tM X.K cl W (cS x)) := pm_c pe_str fun _ _ => .str x
/-- two operands, then a rule by values -/
theorem tOp_ok {r : R2} {f : A → A → Store → Res} {ca cb : CE} (hf : OpOk X.K cl r f) {σ : L2.St} {H : Hp} {Q : VK} (h : tM X.K cl W (cBin f ca cb) σ H Q) : tOp r (tM X.K cl W ca) (tM X.K cl W cb) σ H Q := by
  obtain ⟨B, m, S, ρ, o, e, fin⟩ := h
  refine ⟨B, m, S, ρ, o, e, Fin.bind fin fun x S1 v H1 m1 s1 o1 r1 f1 => ?_⟩
  refine ⟨B, m1, S1, ρ, o1, s1.env o e, Fin.bind f1 fun y S2 w H2 m2 s2 o2 r2 f2 => ?_⟩
  exact hf o2 (s2.rep o1 r1) r2 f2
theorem pm_op {a b : Expr} {op : Operator} {r : R2} {f : A → A → Store → Res} {ca cb : CE} {pos : Pos} (ho : OpR X (binaryOp op) r) (hf : OpOk X.K cl r f) (ha : PE X a (tM X.K cl W ca)) (hb : PE X b (tM X.K cl W cb)) :
    PE X (.BinOp a op b pos) (tM X.K cl W (cBin f ca cb)) := PE.imp (pe_op ho ha hb) fun _ _ _ h => tOp_ok hf h
theorem pm_cmp {a b : Expr} {op : CmpOp} {r : R2} {f : A → A → Store → Res} {ca cb : CE} {pos : Pos} (ho : OpR X (compareOp op) r) (hf : OpOk X.K cl r f) (ha : PE X a (tM X.K cl W ca)) (hb : PE X b (tM X.K cl W cb))
    (hm : behindInMarks op b = false := by first | exact nobehind _ (by decide) (by decide) | rfl) : PE X (.Compare a [op] [b] pos) (tM X.K cl W (cBin f ca cb)) := PE.imp (pe_cmpR ho ha hb hm) fun _ _ _ h => tOp_ok hf h
theorem pm_ix {a b : Expr} {r : R2} {f : A → A → Store → Res} {ca cb : CE} {pos : Pos} (ho : IxR X r) (hf : OpOk X.K cl r f) (ha : PE X a (tM X.K cl W ca)) (hb : PE X b (tM X.K cl W cb)) (hs : PlainIx b := by exact fun _ _ => rfl) :
    PE X (.Subscript a b pos) (tM X.K cl W (cBin f ca cb)) := PE.imp (pe_ix ho ha hb hs) fun _ _ _ h => tOp_ok hf h
theorem pm_un {a : Expr} {op : UnaryOp} {r : V → Hp → VK → Prop} {f : A → Store → Res} {ca : CE} {pos : Pos} (ho : UnR X (unaryOp op) r) (hf : UnOk X.K cl r f) (ha : PE X a (tM X.K cl W ca)) :
    PE X (.UnaryOp op a pos) (tM X.K cl W (cUn f ca)) := PE.imp (pe_un ho ha) fun σ H Q h => by
  obtain ⟨B, m, S, ρ, o, e, fin⟩ := h
  exact ⟨B, m, S, ρ, o, e, Fin.bind fin fun x S1 v H1 m1 s1 o1 r1 f1 => hf o1 r1 f1⟩
theorem pm_nil : PA X [] (tML X.K cl W cNil) := PA.imp pa_nil fun σ H Q h => by
  obtain ⟨B, m, S, ρ, o, e, fin⟩ := h
  exact fin [] H m Step.refl o .nil
theorem pm_cons {a : Expr} {es : List Expr} {c : CE} {r : CA} (ha : PE X a (tM X.K cl W c)) (hr : PA X es (tML X.K cl W r)) (hs : starEach (a :: es) X.env = (false, eval a X.env) :: starEach es X.env := by rfl) : PA X (a :: es) (tML X.K cl W (cCons c r)) :=
  PA.imp (pa_cons ha hr hs) fun σ H Q h => by
  obtain ⟨B, m, S, ρ, o, e, fin⟩ := h
  refine ⟨B, m, S, ρ, o, e, ?_⟩
  unfold cCons at fin
  cases h1 : c ρ S with
  | bad => rw [h1] at fin; exact fin
  | exc x S1 => rw [h1] at fin; exact fin
  | ok x S1 =>
    rw [h1] at fin
    intro v H1 m1 s1 o1 r1
    refine ⟨B, m1, S1, ρ, o1, s1.env o e, ?_⟩
    dsimp only at fin
    cases h2 : r ρ S1 with
    | bad => rw [h2] at fin; exact fin
    | exc y S2 => rw [h2] at fin; exact fun c d H' m' s' => fin c d H' m' (s1.trans s')
    | ok xs S2 =>
      rw [h2] at fin
      intro vs H2 m2 s2 o2 r2
      exact fin (v :: vs) H2 m2 (s1.trans s2) o2 (.cons (s2.rep o1 r1) r2)
theorem pm_tup {es : List Expr} {c : CA} {x1} {pos : Pos} (h : PA X es (tML X.K cl W c)) : PE X (.Tuple es x1 pos) (tM X.K cl W (cTup c)) := PE.imp (pe_tupZ h) fun σ H Q h => by
  obtain ⟨B, m, S, ρ, o, e, fin⟩ := h
  refine ⟨B, m, S, ρ, o, e, FinL.bind fin fun xs S1 vs H1 m1 s1 o1 r1 f1 => ?_⟩
  split at f1
  · rename_i ds hd
    split at f1
    · rename_i hz
      have q := valsOf_ok r1 hd
      exact ⟨by rw [q.length]; exact szOk_line hz, mkT_ok o1 q f1⟩
    · exact f1.elim
  · exact f1.elim
theorem pm_lst (fr : Bool) {es : List Expr} {c : CA} {pos : Pos} (h : PA X es (tML X.K cl W c)) : PE X (.List es pos) (tM X.K cl W (cLst fr c)) := PE.imp (pe_lst h) fun σ H Q h => by
  obtain ⟨B, m, S, ρ, o, e, fin⟩ := h
  refine ⟨B, m, S, ρ, o, e, FinL.bind fin fun xs S1 vs H1 m1 s1 o1 r1 f1 => ?_⟩
  split at f1
  · rename_i ds hd
    split at f1
    · rename_i hz
      have q := valsOf_ok r1 hd
      exact ⟨by rw [q.length]; exact szOk_line hz, fun p hp => mkL_ok o1 q hp f1⟩
    · exact f1.elim
  · exact f1.elim

/-! ### tests -/
theorem FinT.of {B : Addr → Prop} {σ : L2.St} {H : Hp} {m : List Addr} {r : Res} {Q : Bool → Hp → Prop} (h : FinT X.K cl B σ H m W r Q) : Fin X.K cl B σ H m W r fun x H1 => ∃ c, x = .bl c ∧ Q c H1 := by
  cases r with
  | bad => exact h
  | exc e S => exact h
  | ok x S =>
    intro v H1 m1 s1 o1 r1
    cases x with
    | ref i => exact h.elim
    | val d =>
      cases d with
      | bl b => cases r1; exact ⟨b, rfl, h H1 m1 s1 o1⟩
      | _ => exact h.elim
/-- a value that is a bool, as a test -/
theorem pt_of {e : Expr} {c : CE} (h : PE X e (tM X.K cl W c)) (he : ∀ whole, isTrue e X.env whole = (do let v ← whole; standAt e.pos; holding [v] (truthy v)) := by intro _; rfl) : PT X e (tMT X.K cl W c) :=
  PT.imp (pt_val h he) fun σ H Q h => by
  obtain ⟨B, m, S, ρ, o, e, fin⟩ := h
  exact ⟨B, m, S, ρ, o, e, FinT.of fin⟩
theorem pt_cmpM {a b : Expr} {op : CmpOp} {r : R2} {f : A → A → Store → Res} {ca cb : CE} {pos : Pos} (ho : OpR X (compareOp op) r) (hf : OpOk X.K cl r f) (ha : PE X a (tM X.K cl W ca)) (hb : PE X b (tM X.K cl W cb))
    (hm : behindInMarks op b = false := by first | exact nobehind _ (by decide) (by decide) | rfl) : PT X (.Compare a [op] [b] pos) (tMT X.K cl W (cBin f ca cb)) := PT.imp (pt_cmpR ho ha hb hm) fun σ H Q h => by
  obtain ⟨B, m, S, ρ, o, e, fin⟩ := h
  exact tOp_ok hf ⟨B, m, S, ρ, o, e, FinT.of fin⟩
theorem FinT.step {B : Addr → Prop} {σ : L2.St} {H H1 : Hp} {m m1 : List Addr} {r : Res} {Q : Bool → Hp → Prop} (s : Step H m H1 m1) (h : FinT X.K cl B σ H m W r Q) : FinT X.K cl B σ H1 m1 W r Q := by
  cases r with
  | bad => exact h
  | exc e S => exact fun c d H' m' s' => h c d H' m' (s.trans s')
  | ok x S =>
    cases x with
    | ref i => exact h.elim
    | val d =>
      cases d with
      | bl b => exact fun H' m' s' => h H' m' (s.trans s')
      | _ => exact h.elim
theorem FinT.bind {B : Addr → Prop} {σ : L2.St} {H : Hp} {m : List Addr} {r : Res} {f g : Store → Res} {Q R : Bool → Hp → Prop}
    (h : FinT X.K cl B σ H m W (r.bind fun x S1 => match x with
      | .val (.bl true) => f S1
      | .val (.bl false) => g S1
      | _ => .bad) Q)
    (k : ∀ S' H' m', Step H m H' m' → Ok X.K cl B H' m' S' → (FinT X.K cl B σ H' m' W (f S') Q → R true H') ∧ (FinT X.K cl B σ H' m' W (g S') Q → R false H')) : FinT X.K cl B σ H m W r R := by
  cases r with
  | bad => exact h
  | exc e S => exact h
  | ok x S =>
    cases x with
    | ref i => exact h
    | val d =>
      cases d with
      | bl b =>
        cases b with
        | true => exact fun H' m' s' o' => (k S H' m' s' o').1 (h.step s')
        | false => exact fun H' m' s' o' => (k S H' m' s' o').2 (h.step s')
      | _ => exact h
theorem FinT.bindE {B : Addr → Prop} {σ : L2.St} {H : Hp} {m : List Addr} {r : Res} {f g : Store → Res} {Q : VK} {R : Bool → Hp → Prop}
    (h : Fin X.K cl B σ H m W (r.bind fun x S1 => match x with
      | .val (.bl true) => f S1
      | .val (.bl false) => g S1
      | _ => .bad) Q)
    (k : ∀ S' H' m', Step H m H' m' → Ok X.K cl B H' m' S' → (Fin X.K cl B σ H' m' W (f S') Q → R true H') ∧ (Fin X.K cl B σ H' m' W (g S') Q → R false H')) : FinT X.K cl B σ H m W r R := by
  cases r with
  | bad => exact h
  | exc e S => exact h
  | ok x S =>
    cases x with
    | ref i => exact h
    | val d =>
      cases d with
      | bl b =>
        cases b with
        | true => exact fun H' m' s' o' => (k S H' m' s' o').1 (Fin.step s' h)
        | false => exact fun H' m' s' o' => (k S H' m' s' o').2 (Fin.step s' h)
      | _ => exact h
theorem FinT.here {B : Addr → Prop} {σ : L2.St} {H : Hp} {m : List Addr} {S : Store} {b : Bool} {Q : Bool → Hp → Prop} (h : FinT X.K cl B σ H m W (.ok (.val (.bl b)) S) Q) (o : Ok X.K cl B H m S) : Q b H := h H m Step.refl o
variable {a b : Expr} {rest : List Expr} {ca cb : CE} {pos : Pos}
theorem pw_and1M (ha : PT X a (tMT X.K cl W ca)) : PW X (.BoolOp .And [a] pos) (tMT X.K cl W ca) := pw_and1 ha
theorem pw_or1M (ha : PT X a (tMT X.K cl W ca)) : PW X (.BoolOp .Or [a] pos) (tMT X.K cl W ca) := pw_or1 ha
theorem PW.imp {e : Expr} {t u : TT} (h : PW X e t) (k : ∀ σ H Q, u σ H Q → t σ H Q) : PW X e u := ⟨fun wh pins s σ H Q I q => h.run wh pins s σ H Q I (k _ _ _ q)⟩
theorem pw_andM (ha : PT X a (tMT X.K cl W ca)) (hb : PW X (.BoolOp .And (b :: rest) pos) (tMT X.K cl W cb)) : PW X (.BoolOp .And (a :: b :: rest) pos) (tMT X.K cl W (cAnd ca cb)) :=
  PW.imp (pw_and ha hb) fun σ H Q h => by
  obtain ⟨B, m, S, ρ, o, e, fin⟩ := h
  refine ⟨B, m, S, ρ, o, e, FinT.bind (f := cb ρ) (g := cB false ρ) fin fun S1 H1 m1 s1 o1 => ⟨fun q => ?_, fun q => ?_⟩⟩
  · exact iteT ⟨B, m1, S1, ρ, o1, s1.env o e, q⟩
  · exact iteF (q.here o1)
theorem pw_orM (ha : PT X a (tMT X.K cl W ca)) (hb : PW X (.BoolOp .Or (b :: rest) pos) (tMT X.K cl W cb)) : PW X (.BoolOp .Or (a :: b :: rest) pos) (tMT X.K cl W (cOr ca cb)) :=
  PW.imp (pw_or ha hb) fun σ H Q h => by
  obtain ⟨B, m, S, ρ, o, e, fin⟩ := h
  refine ⟨B, m, S, ρ, o, e, FinT.bind (f := cB true ρ) (g := cb ρ) fin fun S1 H1 m1 s1 o1 => ⟨fun q => ?_, fun q => ?_⟩⟩
  · exact iteT (q.here o1)
  · exact iteF ⟨B, m1, S1, ρ, o1, s1.env o e, q⟩
theorem pt_notM (ha : PT X a (tMT X.K cl W ca)) : PT X (.UnaryOp .Not a pos) (tMT X.K cl W (cNot ca)) :=
  PT.imp (pt_not ha) fun σ H Q h => by
  obtain ⟨B, m, S, ρ, o, e, fin⟩ := h
  refine ⟨B, m, S, ρ, o, e, FinT.bind (f := cB false ρ) (g := cB true ρ) fin fun S1 H1 m1 s1 o1 => ⟨fun q => ?_, fun q => ?_⟩⟩
  · exact q.here o1
  · exact q.here o1
/-- by truth -/
theorem tru_val {B : Addr → Prop} {H : Hp} {m : List Addr} {S : Store} {v : V} {x : A} {k : Bool} (o : Ok X.K cl B H m S) (r : RepA X.K cl (NN B m) H m v x) (h : tru S x = some k) : TruV X.K v H k := by
  have hL : ∀ ds, asL S x = some ds → k = !ds.isEmpty → TruV X.K v H k := fun ds h1 h2 => by
    obtain ⟨a, vs, rfl, q, rl⟩ := asL_ok o r h1
    refine .inl ⟨vs, q, ?_⟩
    rw [h2]
    cases rl <;> rfl
  cases x with
  | ref i =>
    have h' : (match asL S (.ref i) with
      | some ds => some (!ds.isEmpty)
      | none => none) = some k := h
    split at h'
    · rename_i ds hd; cases h'; exact hL ds hd rfl
    · cases h'
  | val d =>
    cases d with
    | non => cases r; cases h; rfl
    | bl b => cases r; cases h; rfl
    | int i => cases r; cases h; rfl
    | str s =>
      cases r
      have h' : (if szOk s.length then some (s.length != 0) else none) = some k := h
      split at h' <;> cases h'
      rename_i hz
      refine ⟨szOk_line hz, ?_⟩
      rw [Bool.eq_iff_iff, bne_iff_ne, bne_iff_ne]
      omega
    | tup ds =>
      cases r with
      | tup q rl =>
        cases h
        refine .inr (.inl ⟨_, q.seq, ?_⟩)
        cases rl <;> rfl
    | lst ds =>
      have h' : some (!ds.isEmpty) = some k := h
      exact hL ds rfl (by cases h'; rfl)
    | ro ds =>
      have h' : some (!ds.isEmpty) = some k := h
      exact hL ds rfl (by cases h'; rfl)
    | dic ks ds => cases h
    | ins c ns ds => cases h
    | wt ds => cases h
theorem pt_truM (h : PE X a (tM X.K cl W ca)) (he : ∀ whole, isTrue a X.env whole = (do let v ← whole; standAt a.pos; holding [v] (truthy v)) := by intro _; rfl) : PT X a (tMT X.K cl W (cTru ca)) :=
  PT.imp (pt_truth h he) fun σ H Q h => by
  obtain ⟨B, m, S, ρ, o, e, fin⟩ := h
  refine ⟨B, m, S, ρ, o, e, ?_⟩
  unfold cTru at fin
  cases h1 : ca ρ S with
  | bad => rw [h1] at fin; exact fin
  | exc x S1 => rw [h1] at fin; exact fin
  | ok x S1 =>
    rw [h1] at fin
    intro v H1 m1 s1 o1 r1
    have fin : FinT X.K cl B σ H m W (match tru S1 x with
      | some b => .ok (.val (.bl b)) S1
      | none => .bad) Q := fin
    split at fin
    · rename_i k hk
      exact ⟨k, tru_val o1 r1 hk, fin H1 m1 s1 o1⟩
    · exact fin.elim
theorem pm_if {c : Expr} {ct : CE} (hc : PT X c (tMT X.K cl W ct)) (ha : PE X a (tM X.K cl W ca)) (hb : PE X b (tM X.K cl W cb)) : PE X (.IfExp c a b pos) (tM X.K cl W (cIf ct ca cb)) :=
  PE.imp (pe_ifExp hc ha hb) fun σ H Q h => by
  obtain ⟨B, m, S, ρ, o, e, fin⟩ := h
  refine ⟨B, m, S, ρ, o, e, FinT.bindE (f := ca ρ) (g := cb ρ) fin fun S1 H1 m1 s1 o1 => ⟨fun q => ?_, fun q => ?_⟩⟩
  · exact iteT ⟨B, m1, S1, ρ, o1, s1.env o e, q⟩
  · exact iteF ⟨B, m1, S1, ρ, o1, s1.env o e, q⟩
/-- and, or, not as values: of bools -/
theorem Fin.boolOp {B : Addr → Prop} {σ : L2.St} {H : Hp} {m : List Addr} {r : Res} {f g : Store → Res} {Q : VK} {R : Bool → Hp → Prop}
    (h : Fin X.K cl B σ H m W (r.bind fun x S1 => match x with
      | .val (.bl true) => f S1
      | .val (.bl false) => g S1
      | _ => .bad) Q)
    (k : ∀ S' H' m', Step H m H' m' → Ok X.K cl B H' m' S' → (Fin X.K cl B σ H' m' W (f S') Q → R true H') ∧ (Fin X.K cl B σ H' m' W (g S') Q → R false H')) : Fin X.K cl B σ H m W r fun x H1 => ∃ c, x = .bl c ∧ R c H1 := by
  have := FinT.bindE h k
  exact this.of
theorem pm_and (ha : PE X a (tM X.K cl W ca)) (hb : PE X (.BoolOp .And (b :: rest) pos) (tM X.K cl W cb)) : PE X (.BoolOp .And (a :: b :: rest) pos) (tM X.K cl W (cAnd ca cb)) :=
  PE.imp (pe_and ha hb) fun σ H Q h => by
  obtain ⟨B, m, S, ρ, o, e, fin⟩ := h
  refine ⟨B, m, S, ρ, o, e, ?_⟩
  refine Fin.boolOp (f := cb ρ) (g := cB false ρ) fin fun S1 H1 m1 s1 o1 => ⟨fun q => ?_, fun q => ?_⟩
  · exact iteT ⟨B, m1, S1, ρ, o1, s1.env o e, q⟩
  · exact iteF (q.here o1 (.bl false))
theorem pm_or (ha : PE X a (tM X.K cl W ca)) (hb : PE X (.BoolOp .Or (b :: rest) pos) (tM X.K cl W cb)) : PE X (.BoolOp .Or (a :: b :: rest) pos) (tM X.K cl W (cOr ca cb)) :=
  PE.imp (pe_or ha hb) fun σ H Q h => by
  obtain ⟨B, m, S, ρ, o, e, fin⟩ := h
  refine ⟨B, m, S, ρ, o, e, ?_⟩
  refine Fin.boolOp (f := cB true ρ) (g := cb ρ) fin fun S1 H1 m1 s1 o1 => ⟨fun q => ?_, fun q => ?_⟩
  · exact iteT (q.here o1 (.bl true))
  · exact iteF ⟨B, m1, S1, ρ, o1, s1.env o e, q⟩
theorem pm_one {op} (ha : PE X a (tM X.K cl W ca)) : PE X (.BoolOp op [a] pos) (tM X.K cl W ca) := pe_one ha
theorem pm_not (ha : PE X a (tM X.K cl W ca)) : PE X (.UnaryOp .Not a pos) (tM X.K cl W (cNot ca)) :=
  PE.imp (pe_not ha) fun σ H Q h => by
  obtain ⟨B, m, S, ρ, o, e, fin⟩ := h
  refine ⟨B, m, S, ρ, o, e, ?_⟩
  refine Fin.boolOp (f := cB false ρ) (g := cB true ρ) fin fun S1 H1 m1 s1 o1 => ⟨fun q => ?_, fun q => ?_⟩
  · exact q.here o1 (.bl false)
  · exact q.here o1 (.bl true)
end
end T3
namespace T3
open PySem PySem.Spec PyProof.Rows L2

/-! ### equality of data -/
mutual
noncomputable def toP : D → PyData
  | .non => .none
  | .bl b => .bool b
  | .int i => .int i
  | .str s => .str s
  | .tup xs => .tuple (toPL xs)
  | .lst xs => .list (toPL xs)
  | .ro xs => .list (toPL xs)
  | .wt _ => .none
  | .dic _ _ => .none
  | .ins _ _ _ => .none
noncomputable def toPL : List D → List PyData
  | [] => []
  | x :: r => toP x :: toPL r
end
mutual
/-- data of nones, bools, ints, texts, lists, tuples -/
noncomputable def dOk : D → Bool
  | .str s => PySem.PyData.strOk s
  | .tup xs => dOkL xs
  | .lst xs => dOkL xs
  | .ro xs => dOkL xs
  | .dic _ _ => false
  | .ins _ _ _ => false
  | .wt _ => false
  | _ => true
noncomputable def dOkL : List D → Bool
  | [] => true
  | x :: r => dOk x && dOkL r
end
mutual
noncomputable def dDep : D → Nat
  | .tup xs => dDepL xs + 1
  | .lst xs => dDepL xs + 1
  | .ro xs => dDepL xs + 1
  | _ => 0
noncomputable def dDepL : List D → Nat
  | [] => 0
  | x :: r => max (dDep x) (dDepL r)
end
mutual
noncomputable def dEq : D → D → Bool
  | .non, .non => true
  | .bl a, .bl b => a == b
  | .bl a, .int j => (if a then 1 else 0) == j
  | .int i, .bl b => i == (if b then 1 else 0)
  | .int i, .int j => i == j
  | .str x, .str y => x == y
  | .tup xs, .tup ys => dEqL xs ys
  | .lst xs, .lst ys => dEqL xs ys
  | .lst xs, .ro ys => dEqL xs ys
  | .ro xs, .lst ys => dEqL xs ys
  | .ro xs, .ro ys => dEqL xs ys
  | _, _ => false
noncomputable def dEqL : List D → List D → Bool
  | [], [] => true
  | x :: xs, y :: ys => dEq x y && dEqL xs ys
  | _, _ => false
end
mutual
theorem dEq_toP : ∀ {d e : D}, dOk d = true → dOk e = true → PyData.eqv (toP d) (toP e) = dEq d e
  | .non, e, _, he => by cases e <;> first | rfl | cases he
  | .bl b, e, _, he => by cases e <;> first | rfl | cases he
  | .int b, e, _, he => by cases e <;> first | rfl | cases he
  | .str b, e, _, he => by cases e <;> first | rfl | cases he
  | .tup xs, e, hd, he => by cases e <;> first | rfl | cases he | exact dEqL_toP hd he
  | .lst xs, e, hd, he => by cases e <;> first | rfl | cases he | exact dEqL_toP hd he
  | .ro xs, e, hd, he => by cases e <;> first | rfl | cases he | exact dEqL_toP hd he
  | .wt _, _, hd, _ => by cases hd
  | .dic _ _, _, hd, _ => by cases hd
  | .ins _ _ _, _, hd, _ => by cases hd
theorem dEqL_toP : ∀ {ds es : List D}, dOkL ds = true → dOkL es = true → PyData.eqvAll (toPL ds) (toPL es) = dEqL ds es
  | [], [], _, _ => rfl
  | [], _ :: _, _, _ => rfl
  | _ :: _, [], _, _ => rfl
  | d :: ds, e :: es, hd, he => by
    simp only [dOkL, Bool.and_eq_true] at hd he
    show (PyData.eqv (toP d) (toP e) && PyData.eqvAll (toPL ds) (toPL es)) = (dEq d e && dEqL ds es)
    rw [dEq_toP hd.1 he.1, dEqL_toP hd.2 he.2]
end
mutual
theorem canLay_toP : ∀ {d : D}, dOk d = true → PyData.canLay0 (toP d) = true
  | .non, _ => rfl
  | .bl b, _ => rfl
  | .int b, _ => rfl
  | .str b, h => h
  | .tup xs, h => canLayL_toP (ds := xs) h
  | .lst xs, h => canLayL_toP (ds := xs) h
  | .ro xs, h => canLayL_toP (ds := xs) h
  | .wt _, h => by cases h
  | .dic _ _, h => by cases h
  | .ins _ _ _, h => by cases h
theorem canLayL_toP : ∀ {ds : List D}, dOkL ds = true → PyData.canLayAll0 (toPL ds) = true
  | [], _ => rfl
  | d :: ds, h => by
    simp only [dOkL, Bool.and_eq_true] at h
    show (PyData.canLay0 (toP d) && PyData.canLayAll0 (toPL ds)) = true
    rw [canLay_toP h.1, canLayL_toP h.2]
    rfl
end
mutual
theorem depth_toP : ∀ {d : D}, dOk d = true → PyData.depth (toP d) = dDep d
  | .non, _ => rfl
  | .bl b, _ => rfl
  | .int b, _ => rfl
  | .str b, h => rfl
  | .tup xs, h => congrArg (· + 1) (depthL_toP (ds := xs) h)
  | .lst xs, h => congrArg (· + 1) (depthL_toP (ds := xs) h)
  | .ro xs, h => congrArg (· + 1) (depthL_toP (ds := xs) h)
  | .wt _, h => by cases h
  | .dic _ _, h => by cases h
  | .ins _ _ _, h => by cases h
theorem depthL_toP : ∀ {ds : List D}, dOkL ds = true → PyData.depthAll (toPL ds) = dDepL ds
  | [], _ => rfl
  | d :: ds, h => by
    simp only [dOkL, Bool.and_eq_true] at h
    show max (PyData.depth (toP d)) (PyData.depthAll (toPL ds)) = max (dDep d) (dDepL ds)
    rw [depth_toP h.1, depthL_toP h.2]
end
noncomputable def shp (d : D) : Bool := dOk d && decide (dDep d ≤ 60)
theorem shp_shaped {d : D} (h : shp d = true) : SeqAt.shaped (toP d) = true := by
  simp only [shp, Bool.and_eq_true, decide_eq_true_eq] at h
  simp only [SeqAt.shaped, Bool.and_eq_true, decide_eq_true_eq]
  exact ⟨canLay_toP h.1, by rw [depth_toP h.1]; omega⟩
theorem shp_ok {d : D} (h : shp d = true) : dOk d = true := by
  simp only [shp, Bool.and_eq_true] at h
  exact h.1
/-- a value as it stands -/
noncomputable def cur (S : Store) : A → Option D
  | .val d => some d
  | .ref i => match S[i]? with
    | some (.lst ds) => some (.lst ds)
    | some (.dic ks ds) => some (.dic ks ds)
    | _ => none
section
variable {K : PySem.W.Frag} {cl : ClT} {N : Addr → Prop} {B : Addr → Prop} {H : Hp} {m : List Addr} {S : Store}
abbrev N0 : Addr → Prop := fun _ => False
theorem cur_ok (o : Ok K cl B H m S) {v : V} {x : A} {d : D} (r : RepA K cl (NN B m) H m v x) (h : cur S x = some d) : Rep K cl N0 H v d := by
  cases x with
  | val e => cases h; exact Rep.weak (fun _ z => z.elim) r
  | ref i =>
    obtain ⟨a, ha, rfl⟩ := r
    simp only [cur] at h
    split at h <;> cases h
    · rename_i hs
      obtain ⟨xs, e, q⟩ := o.obj i a _ ha hs
      exact .lst e (fun z => z) (q.weak fun _ z => z.elim)
    · rename_i hs
      obtain ⟨xs, e, l, q⟩ := o.obj i a _ ha hs
      exact .dic e (fun z => z) l (q.weak fun _ z => z.elim)
mutual
theorem Dp.of : ∀ {v : V} {d : D}, Rep K cl N H v d → dOk d = true → Dp K H v (toP d)
  | _, _, .non, _ => .non
  | _, _, .bl b, _ => .bl b
  | _, _, .int b, _ => .int b
  | _, _, .str b, _ => .str b
  | _, _, .tup t r, h => .tup t.seq (DpAll.of r h)
  | _, _, .lst e n r, h => .lst (.of e) (DpAll.of r h)
  | _, _, .ro e r, h => .lst e.seq (DpAll.of r h)
  | _, _, .dic _ _ _ _, h => by cases h
  | _, _, .ins _ _, h => by cases h
  | _, _, .wt _ _ _, h => by cases h
theorem DpAll.of : ∀ {vs : List V} {ds : List D}, RepL K cl N H vs ds → dOkL ds = true → DpAll K H vs (toPL ds)
  | _, _, .nil, _ => .nil
  | _, _, .cons (d := d) (ds := ds) t r, h => by
    have h' : dOk d = true ∧ dOkL ds = true := by simpa only [dOkL, Bool.and_eq_true] using h
    exact .cons (Dp.of t h'.1) (DpAll.of r h'.2)
end
end
noncomputable def fEq0 (x y : A) (S : Store) : Res := match cur S x, cur S y with
  | some d, some e => if shp d && shp e then .ok (.val (.bl (dEq d e))) S else .bad
  | _, _ => .bad
noncomputable def fEq (x y : A) (S : Store) : Res := match x, y with
  | .val (.str a), .val (.str b) => .ok (.val (.bl (a == b))) S
  | x, y => fEq0 x y S
noncomputable def fNe0 (x y : A) (S : Store) : Res := match cur S x, cur S y with
  | some d, some e => if shp d && shp e then .ok (.val (.bl (!dEq d e))) S else .bad
  | _, _ => .bad
noncomputable def fNe (x y : A) (S : Store) : Res := match x, y with
  | .val (.str a), .val (.str b) => .ok (.val (.bl (!(a == b)))) S
  | x, y => fNe0 x y S
/-- two ints -/
noncomputable def fI2 (c : Int → Int → Bool) (g : Int → Int → D) (x y : A) (S : Store) : Res := match x, y with
  | .val (.int i), .val (.int j) => if c i j then .ok (.val (g i j)) S else .bad
  | _, _ => .bad
abbrev yes2 : Int → Int → Bool := fun _ _ => true
abbrev fSub := fI2 yes2 fun i j => .int (i - j)
abbrev fMod := fI2 (fun _ j => decide (0 < j)) fun i j => .int (i % j)
abbrev fFdv := fI2 (fun _ j => decide (0 < j) && decide (j < 1073741824)) fun i j => .int (i / j)
abbrev fPow := fI2 (fun i j => decide (0 ≤ j) && decide (j ≤ 1000000) && decide (i.natAbs < 2 ^ 64)) fun i j => .int (i ^ j.toNat)
abbrev fLt := fI2 yes2 fun i j => .bl (decide (i < j))
abbrev fLe := fI2 yes2 fun i j => .bl (decide (i ≤ j))
abbrev fGt := fI2 yes2 fun i j => .bl (decide (j < i))
abbrev fGe := fI2 yes2 fun i j => .bl (decide (j ≤ i))
noncomputable def fAdd (fr : Bool) (x y : A) (S : Store) : Res := match x, y with
  | .val (.int i), .val (.int j) => .ok (.val (.int (i + j))) S
  | .val (.str a), .val (.str b) => if szOk (a.length + b.length) then .ok (.val (.str (a ++ b))) S else .bad
  | .val (.tup a), .val (.tup b) => if szOk (a.length + b.length) then .ok (.val (.tup (a ++ b))) S else .bad
  | x, y => match asM S x, asM S y with
    | some a, some b => if szOk (a.length + b.length) then mkL fr (a ++ b) S else .bad
    | _, _ => .bad
noncomputable def mulOk (i j : Int) : Bool := (decide (-18446744073709551616 < i) && decide (i < 18446744073709551616)) || (decide (-18446744073709551616 < j) && decide (j < 18446744073709551616))
noncomputable def fMul (fr : Bool) (x y : A) (S : Store) : Res := match x, y with
  | .val (.int i), .val (.int j) => if mulOk i j then .ok (.val (.int (i * j))) S else .bad
  | .val (.tup a), .val (.int k) => if decide (k = 1) then .ok (.val (.tup a)) S else if !a.isEmpty && decide (2 ≤ k) && decide (k ≤ 1000) && decide (a.length ≤ 1000) then .ok (.val (.tup (List.replicate k.toNat a).flatten)) S else .bad
  | x, .val (.int k) => match asM S x with
    | some a => if decide (-1000000 ≤ k) && decide (k ≤ 1000000) && szOk (a.length * k.toNat) then mkL fr (List.replicate k.toNat a).flatten S else .bad
    | none => .bad
  | _, _ => .bad
section
variable {X : Cx} {cl : ClT}
theorem ok_eq0 : OpOk X.K cl (rEqD X.K) fEq0 := by
  intro B H m S σ W v w x y Q o rx ry h
  unfold fEq0 at h
  split at h
  · rename_i d e hd he
    split at h
    · rename_i hs
      simp only [Bool.and_eq_true] at hs
      have rd := cur_ok o rx hd
      have re := cur_ok o ry he
      refine ⟨_, _, Dp.of rd (shp_ok hs.1), Dp.of re (shp_ok hs.2), shp_shaped hs.1, shp_shaped hs.2, ?_⟩
      rw [dEq_toP (shp_ok hs.1) (shp_ok hs.2)]
      exact h.here o (.bl _)
    · exact h.elim
  · exact h.elim
theorem ok_ne0 : OpOk X.K cl (rNeD X.K) fNe0 := by
  intro B H m S σ W v w x y Q o rx ry h
  unfold fNe0 at h
  split at h
  · rename_i d e hd he
    split at h
    · rename_i hs
      simp only [Bool.and_eq_true] at hs
      have rd := cur_ok o rx hd
      have re := cur_ok o ry he
      refine ⟨_, _, Dp.of rd (shp_ok hs.1), Dp.of re (shp_ok hs.2), shp_shaped hs.1, shp_shaped hs.2, ?_⟩
      rw [dEq_toP (shp_ok hs.1) (shp_ok hs.2)]
      exact h.here o (.bl _)
    · exact h.elim
  · exact h.elim
noncomputable def rEqM (K : PySem.W.Frag) : R2 := fun x y H Q => rEqD K x y H Q ∨ rEq x y H Q
noncomputable def rNeM (K : PySem.W.Frag) : R2 := fun x y H Q => rNeD K x y H Q ∨ rNe x y H Q
theorem op_eqM (hu : X.A.units + 64 < cLine) : OpR X (compareOp .Eq) (rEqM X.K) := OpR.or (op_eqD hu) op_eq
theorem op_neM (hu : X.A.units + 64 < cLine) : OpR X (compareOp .NotEq) (rNeM X.K) := OpR.or (op_neD hu) op_ne
theorem dec_str {a b : Str} : decide (V.str a = V.str b) = (a == b) := by
  rw [Bool.eq_iff_iff]
  simp
theorem ok_eq : OpOk X.K cl (rEqM X.K) fEq := by
  intro B H m S σ W v w x y Q o rx ry h
  unfold fEq at h
  split at h
  · cases rx; cases ry
    refine .inr ⟨rfl, ?_⟩
    rw [dec_str]
    exact h.here o (.bl _)
  · exact .inl (ok_eq0 o rx ry h)
theorem ok_ne : OpOk X.K cl (rNeM X.K) fNe := by
  intro B H m S σ W v w x y Q o rx ry h
  unfold fNe at h
  split at h
  · cases rx; cases ry
    refine .inr ⟨rfl, ?_⟩
    rw [dec_str]
    exact h.here o (.bl _)
  · exact .inl (ok_ne0 o rx ry h)
theorem ok_i2 {K : PySem.W.Frag} {C : Int → Int → Prop} {c : Int → Int → Bool} {g : Int → Int → D} {gV : Int → Int → V} (hc : ∀ i j, c i j = true → C i j) (hg : ∀ i j N H, Rep K cl N H (gV i j) (g i j)) : OpOk K cl (rI C gV) (fI2 c g) := by
  intro B H m S σ W v w x y Q o rx ry h
  unfold fI2 at h
  split at h
  · rename_i i j
    cases rx
    cases ry
    split at h
    · rename_i hz
      exact ⟨i, j, rfl, rfl, hc i j hz, h.here o (x := .val _) (hg i j _ _)⟩
    · exact h.elim
  · exact h.elim
theorem ok_i20 {K : PySem.W.Frag} {g : Int → Int → D} {gV : Int → Int → V} (hg : ∀ i j N H, Rep K cl N H (gV i j) (g i j)) : OpOk K cl (rI0 gV) (fI2 yes2 g) := by
  intro B H m S σ W v w x y Q o rx ry h
  unfold fI2 at h
  split at h
  · rename_i i j
    cases rx
    cases ry
    exact ⟨i, j, rfl, rfl, Fin.here h o (x := .val _) (hg i j _ _)⟩
  · exact h.elim
end
end T3
namespace T3
open PySem PySem.Spec PyProof.Rows L2
section
variable {X : Cx} {cl : ClT} {W : WX}
/-! ### + and * -/
noncomputable def rAdd (K : PySem.W.Frag) : R2 := fun x y H Q => (rI0 (fun i j => .int (i + j)) x y H Q ∨ (∃ i j, x = .str i ∧ y = .str j ∧ i.length + j.length ≤ sizeLine ∧ Q (.str (i ++ j)) H)) ∨ (rCatZ K x y H Q ∨ rCat x y H Q)
theorem op_addM : OpR X (binaryOp .Add) (rAdd X.K) := OpR.or (OpR.or op_add op_add_str) (OpR.or op_catZ op_cat)
theorem ok_add (fr : Bool) : OpOk X.K cl (rAdd X.K) (fAdd fr) := by
  intro B H m S σ W v w x y Q o rx ry h
  have hL : (∃ a b, asM S x = some a ∧ asM S y = some b ∧ szOk (a.length + b.length) = true ∧ Fin X.K cl B σ H m W (mkL fr (a ++ b) S) Q) → rAdd X.K v w H Q := by
    rintro ⟨a, b, ha, hb, hz, q⟩
    obtain ⟨p, xs, rfl, e1, r1⟩ := asM_ok o rx ha
    obtain ⟨p2, ys, rfl, e2, r2⟩ := asM_ok o ry hb
    refine .inr (.inr ⟨p, p2, xs, ys, rfl, rfl, e1, e2, by rw [r1.length, r2.length]; exact szOk_line hz, fun z hz => mkL_ok o (r1.append r2) hz q⟩)
  unfold fAdd at h
  split at h
  · rename_i i j
    cases rx; cases ry
    exact .inl (.inl ⟨i, j, rfl, rfl, h.here o (.int _)⟩)
  · rename_i i j
    cases rx; cases ry
    split at h
    · rename_i hz
      exact .inl (.inr ⟨i, j, rfl, rfl, szOk_line hz, h.here o (.str _)⟩)
    · exact h.elim
  · rename_i a b
    obtain ⟨p, xs, rfl, e1, r1⟩ := asT_ok (x := .val (.tup a)) rx rfl
    obtain ⟨p2, ys, rfl, e2, r2⟩ := asT_ok (x := .val (.tup b)) ry rfl
    split at h
    · rename_i hz
      refine .inr (.inl ⟨p, p2, xs, ys, rfl, rfl, e1, e2, by rw [r1.length, r2.length]; exact szOk_line hz, fun e => ?_, fun e1 e2 => ?_, fun _ _ => ?_⟩)
      · subst e; cases r1; exact h.here o ry
      · subst e2; cases r2; rw [List.append_nil] at h; exact h.here o rx
      · exact mkT_ok o (r1.append r2) h
    · exact h.elim
  · split at h
    · rename_i a b ha hb
      split at h
      · rename_i hz
        exact hL ⟨a, b, ha, hb, hz, h⟩
      · exact h.elim
    · exact h.elim
theorem repL_rep {K : PySem.W.Frag} {N : Addr → Prop} {H : Hp} {vs : List V} {ds : List D} (r : RepL K cl N H vs ds) : ∀ n : Nat, RepL K cl N H (List.replicate n vs).flatten (List.replicate n ds).flatten
  | 0 => .nil
  | n + 1 => by rw [List.replicate_succ, List.replicate_succ, List.flatten_cons, List.flatten_cons]; exact r.append (repL_rep r n)
/-- t * 1 is t -/
theorem tuple_mulOne (l : Addr) (items : Array Value) (n : Nat) (sl : Array (Option Value)) (dd : Option Addr) (u : Tok) :
    Meets (Builtin.«tuple.__mul__» ⟨[.ref l, .int 1 u], []⟩) (fun _ R s => s.heap.get? l = some { cls := .type "tuple", dict := dd, data := .seq items n, slots := sl } ∧ R (.ok (.ret (Value.ref l))) s) :=
  .of_wp fun prog w A R s h => by
    obtain ⟨hp, g, d, tk, os⟩ := s
    obtain ⟨hl, h⟩ := h
    have f1 := AutoSeq1.idx_int
    have c0 : (decide ((1 : Int) < -(2 ^ 63)) || decide ((1 : Int) ≥ 2 ^ 63)) = false := by decide
    have c1 : (items.isEmpty || (1 : Int) == 1) = true := by rw [Bool.or_eq_true]; exact .inr rfl
    wp_walk using wpAny_loadPart' hl
    repeat (first
      | (refine wpAny_ite_false (decide_eq_false (by rw [c0]; exact Bool.false_ne_true)) ?_; wp_walk using wpAny_loadPart' hl)
      | (refine wpAny_ite_true (decide_eq_true (by rw [c1])) ?_; wp_walk using wpAny_loadPart' hl))
    exact ⟨_, rfl, h⟩
noncomputable def rRepOne (K : PySem.W.Frag) : R2 := fun x y H Q => ∃ l xs, x = .ref l ∧ y = .int 1 ∧ SqT K H l xs ∧ Q (.ref l) H
theorem op_repOne : OpR X (binaryOp .Mult) (rRepOne X.K) := by
  intro pins s σ H x y v u Q I rx ry h
  obtain ⟨l, xs, rfl, rfl, hT, q⟩ := h
  cases rx
  obtain ⟨t, rfl⟩ := ry
  obtain ⟨its, r, ⟨⟨cls, dd, data, sl⟩, ho, hc, n, hd⟩, hs⟩ := I.tuple hT
  simp only at hc hd
  subst hc hd
  exact wpAny_binaryOp_repeat_ref (T := "tuple") (U := "int") (by decide) ⟨_, ho, rfl⟩ (fun s' => typeIs_int s' 1 t) noFill_tuple_mul F.fills_int_mul F.slot_int_rmul repeat_tuple F.slot_int_index.lookup
    (call_meets F.slot_int_rmul (typeIs_int s 1 t) F.entry_int_rmul (F.args_int_rmul_2 _ _) (int_rmul_tuple 1 t l its.toArray n dd sl)
      ⟨ho, rfl, ⟨_, ho, rfl⟩, call_meets F.slot_tuple_mul ⟨_, ho, rfl⟩ F.entry_tuple_mul (F.args_tuple_mul_2 _ _) (tuple_mulOne l its.toArray n sl dd t) ⟨ho, ⟨.ref l, H, I, rfl, q⟩⟩⟩)
noncomputable def rMulM (K : PySem.W.Frag) : R2 := fun x y H Q => rI CMul (fun i j => .int (i * j)) x y H Q ∨ (rRepZ K x y H Q ∨ (rRepOne K x y H Q ∨ rRep x y H Q))
theorem op_mulM : OpR X (binaryOp .Mult) (rMulM X.K) := OpR.or op_mul (OpR.or op_repZ (OpR.or op_repOne op_rep))
theorem mulOk_ok {i j : Int} (h : mulOk i j = true) : CMul i j := by
  simp only [mulOk, Bool.or_eq_true, Bool.and_eq_true, decide_eq_true_eq] at h
  rcases h with h | h
  · exact .inl h
  · exact .inr h
theorem ok_mul (fr : Bool) : OpOk X.K cl (rMulM X.K) (fMul fr) := by
  intro B H m S σ W v w x y Q o rx ry h
  unfold fMul at h
  split at h
  · rename_i i j
    cases rx; cases ry
    split at h
    · rename_i hz
      exact .inl ⟨i, j, rfl, rfl, mulOk_ok hz, h.here o (.int _)⟩
    · exact h.elim
  · rename_i a k
    cases ry
    obtain ⟨p, xs, rfl, e1, r1⟩ := asT_ok (x := .val (.tup a)) rx rfl
    split at h
    · rename_i hk
      have hk : k = 1 := of_decide_eq_true hk
      subst hk
      exact .inr (.inr (.inl ⟨p, xs, rfl, rfl, e1, h.here o rx⟩))
    split at h
    · rename_i hz
      simp only [Bool.and_eq_true, decide_eq_true_eq, Bool.not_eq_true', List.isEmpty_eq_false_iff] at hz
      obtain ⟨⟨⟨h1, h2⟩, h3⟩, h4⟩ := hz
      refine .inr (.inl ⟨p, k, xs, rfl, rfl, e1, fun e => ?_, h2, h3, by rw [r1.length]; exact h4, mkT_ok o (repL_rep r1 _) h⟩)
      subst e; cases r1; exact h1 rfl
    · exact h.elim
  · rename_i k _ _
    cases ry
    split at h
    · rename_i a ha
      split at h
      · rename_i hz
        simp only [Bool.and_eq_true, decide_eq_true_eq] at hz
        obtain ⟨⟨h1, h2⟩, h3⟩ := hz
        obtain ⟨p, xs, rfl, e1, r1⟩ := asM_ok o rx ha
        refine .inr (.inr (.inr ⟨p, k, xs, rfl, rfl, e1, by omega, by omega, by rw [r1.length]; exact szOk_line h3, fun z hz => mkL_ok o (repL_rep r1 _) hz h⟩))
      · exact h.elim
    · exact h.elim
  · exact h.elim

/-! ### places -/
/-- the place that an index names -/
noncomputable def ixD (n : Nat) (i : Int) : Option Nat := if 0 ≤ i then (if i < n then some i.toNat else none) else if -(n : Int) ≤ i then some (i + n).toNat else none
noncomputable def fIx (x y : A) (S : Store) : Res := match y with
  | .val (.int i) => (match x with
    | .val (.str s) => if szOk s.length then (match (ixN s.cps.toList.length i).bind fun j => s.cps.toList[j]? with
      | some c => .ok (.val (.str ⟨#[c]⟩)) S
      | none => .bad) else .bad
    | .val (.tup ds) => (match (ixN ds.length i).bind fun j => ds[j]? with
      | some d => .ok (.val d) S
      | none => .bad)
    | x => match asL S x with
      | some ds => (match (ixN ds.length i).bind fun j => ds[j]? with
        | some d => .ok (.val d) S
        | none => .bad)
      | none => .bad)
  | _ => .bad
theorem at_ok {K : PySem.W.Frag} {N : Addr → Prop} {H : Hp} {vs : List V} {ds : List D} {i : Int} {d : D} (r : RepL K cl N H vs ds) (h : ((ixN ds.length i).bind fun j => ds[j]?) = some d) : ∃ v, atI vs i = some v ∧ Rep K cl N H v d := by
  unfold atI
  rw [r.length]
  cases e : ixN ds.length i with
  | none => rw [e] at h; cases h
  | some j =>
    rw [e] at h
    obtain ⟨v, h1, h2⟩ := r.got (i := j) (d := d) h
    exact ⟨v, h1, h2⟩
theorem ok_ix : OpOk X.K cl (rIx X.K) fIx := by
  intro B H m S σ W v w x y Q o rx ry h
  have hL : ∀ (i : Int) ds d, w = .int i → asL S x = some ds → ((ixN ds.length i).bind fun j => ds[j]?) = some d → Fin X.K cl B σ H m W (.ok (.val d) S) Q → rIx X.K v w H Q := by
    rintro i ds d rfl h1 h2 q
    obtain ⟨p, xs, rfl, e1, r1⟩ := asL_ok o rx h1
    obtain ⟨u, a1, a2⟩ := at_ok r1 h2
    exact .inl ⟨p, xs, i, u, rfl, rfl, e1, a1, q.here o a2⟩
  unfold fIx at h
  split at h
  · rename_i i
    cases ry
    split at h
    · rename_i s
      cases rx
      split at h
      · rename_i hz
        split at h
        · rename_i c hc
          exact .inr (.inr ⟨s, i, c, rfl, rfl, szOk_line hz, hc, h.here o (.str _)⟩)
        · exact h.elim
      · exact h.elim
    · rename_i ds
      obtain ⟨p, xs, rfl, e1, r1⟩ := asT_ok (x := .val (.tup ds)) rx rfl
      split at h
      · rename_i d hd
        obtain ⟨u, a1, a2⟩ := at_ok r1 hd
        exact .inr (.inl ⟨p, xs, i, u, rfl, rfl, e1, a1, h.here o a2⟩)
      · exact h.elim
    · split at h
      · rename_i ds hds
        split at h
        · rename_i d hd
          exact hL i ds d rfl hds hd h
        · exact h.elim
      · exact h.elim
  · exact h.elim

/-! ### slices -/
noncomputable def cutD (ds : List D) (lo hi : Option Int) : List D := (ds.drop (HT.sIx ds.length 0 lo)).take (HT.sIx ds.length ds.length hi - HT.sIx ds.length 0 lo)
noncomputable def withO (c : Option CE) (ρ : Slots) (S : Store) (f : Option Int → Store → Res) : Res := match c with
  | none => f none S
  | some c => (c ρ S).bind fun x S1 => match x with
    | .val (.int i) => f (some i) S1
    | _ => .bad
noncomputable def slD (fr : Bool) (x : A) (l u : Option Int) (S : Store) : Res := match x with
  | .val (.str s) => if szOk s.length then .ok (.val (.str (cutS s l u))) S else .bad
  | .val (.tup ds) => .ok (.val (.tup (cutD ds l u))) S
  | x => match asL S x with
    | some ds => mkL fr (cutD ds l u) S
    | none => .bad
noncomputable def cSl (fr : Bool) (c : CE) (lo hi : Option CE) : CE := fun ρ S => (c ρ S).bind fun x S1 => withO lo ρ S1 fun l S2 => withO hi ρ S2 fun u S3 => slD fr x l u S3
noncomputable def tO (K : PySem.W.Frag) (cl : ClT) (W : WX) : Option CE → TO
  | none => tNoPart
  | some c => tPart (tM K cl W c)
theorem withO_ok {B : Addr → Prop} {σ : L2.St} {H : Hp} {m : List Addr} {ρ : Slots} {S : Store} {f : Option Int → Store → Res} {Q : VK} {R : Option Int → Hp → Prop} {c : Option CE} (o : Ok X.K cl B H m S) (e : EnvOk X.K cl (NN B m) H m σ ρ)
    (h : Fin X.K cl B σ H m W (withO c ρ S f) Q) (k : ∀ l S' H' m', Step H m H' m' → Ok X.K cl B H' m' S' → EnvOk X.K cl (NN B m') H' m' σ ρ → Fin X.K cl B σ H' m' W (f l S') Q → R l H') : tO X.K cl W c σ H R := by
  cases c with
  | none => exact k none S H m Step.refl o e h
  | some c =>
    refine ⟨B, m, S, ρ, o, e, Fin.bind h fun x S1 v H1 m1 s1 o1 r1 f1 => ?_⟩
    split at f1
    · rename_i i
      cases r1
      exact ⟨i, rfl, k (some i) S1 H1 m1 s1 o1 (s1.env o e) f1⟩
    · exact f1.elim
theorem po_n : PO X none (tO X.K cl W none) := po_none
theorem po_e {e : Expr} {c : CE} (h : PE X e (tM X.K cl W c)) : PO X (some e) (tO X.K cl W (some c)) := po_some h
noncomputable def rSlM (K : PySem.W.Frag) : V → Option Int → Option Int → Hp → VK → Prop := fun x l u H Q => rSlZ K x l u H Q ∨ (rSlL K x l u H Q ∨ rSlS x l u H Q)
theorem sl_M : SlR X (rSlM X.K) := SlR.or sl_tupZ (SlR.or sl_list sl_str)
theorem cut_ok {K : PySem.W.Frag} {N : Addr → Prop} {H : Hp} {vs : List V} {ds : List D} {l u : Option Int} (r : RepL K cl N H vs ds) : RepL K cl N H (cutV vs l u) (cutD ds l u) := by
  unfold cutV cutD
  rw [r.length]
  exact (r.drop _).take _
theorem cutD_all {ds : List D} {l u : Option Int} (h : HT.sIx ds.length 0 l = 0 ∧ HT.sIx ds.length ds.length u = ds.length) : cutD ds l u = ds := by
  unfold cutD
  rw [h.1, h.2, List.drop_zero, Nat.sub_zero, List.take_length]
theorem pm_slice (fr : Bool) {e : Expr} {lo hi : Option Expr} {c : CE} {cl1 ch : Option CE} {pos p2 : Pos} (he : PE X e (tM X.K cl W c)) (hl : PO X lo (tO X.K cl W cl1)) (hu : PO X hi (tO X.K cl W ch)) :
    PE X (.Subscript e (.Slice lo hi none p2) pos) (tM X.K cl W (cSl fr c cl1 ch)) := PE.imp (pe_slice sl_M he hl hu) fun σ H Q h => by
  obtain ⟨B, m, S, ρ, o, e, fin⟩ := h
  refine ⟨B, m, S, ρ, o, e, Fin.bind fin fun x S1 v H1 m1 s1 o1 r1 f1 => ?_⟩
  refine withO_ok o1 (s1.env o e) f1 fun l S2 H2 m2 s2 o2 e2 f2 => ?_
  refine withO_ok o2 e2 f2 fun u S3 H3 m3 s3 o3 e3 f3 => ?_
  have r3 := s3.rep o2 (s2.rep o1 r1)
  unfold slD at f3
  split at f3
  · rename_i s
    cases r3
    split at f3
    · rename_i hz
      exact .inr (.inr ⟨s, rfl, szOk_line hz, f3.here o3 (.str _)⟩)
    · exact f3.elim
  · rename_i ds
    obtain ⟨p, xs, rfl, e1, q1⟩ := asT_ok (x := .val (.tup ds)) r3 rfl
    refine .inl ⟨p, xs, rfl, e1, fun hw => ?_, fun hw => mkT_ok o3 (cut_ok q1) f3⟩
    rw [q1.length] at hw
    rw [cutD_all hw] at f3
    exact f3.here o3 r3
  · split at f3
    · rename_i ds hd
      obtain ⟨p, xs, rfl, e1, q1⟩ := asL_ok o3 r3 hd
      exact .inr (.inl ⟨p, xs, rfl, e1, fun p hp => mkL_ok o3 (cut_ok q1) hp f3⟩)
    · exact f3.elim
end
end T3
namespace T3
open PySem PySem.Spec PyProof.Rows L2

/-! ### defs: a promise where nothing is being shown -/
structure FnG (P : Program) (w : World) (K : PySem.W.Frag) (mg : Str → Option Value) (base : Heap) (k : Nat) (f : Addr) (fd : FuncData) (ps : List Str) (sp : Sp) : Prop where
  len : ∀ vs H Q E, sp vs H Q E → vs.length = ps.length
  run : ∀ {A : Around} {outer : List Env} {s : Shared} {H : Hp} {args : Args} {us : List Value} {vs : List V} {Q : VK} {E : XK}, A.guards = some [] → Room k A → Env0 P w K mg base A outer s H → BindsTo s fd args (ps.zip us) → Vals vs us →
    sp vs H Q E → codeAny (model P w) A (.call (.ref f) args) (CR (L2.CX P w) outer P w H s Q E) s
section
variable {P : Program} {w : World} {K : PySem.W.Frag} {mg : Str → Option Value} {base : Heap}
theorem FnG.up {j k : Nat} {f : Addr} {fd : FuncData} {ps : List Str} {sp : Sp} (F : FnG P w K mg base j f fd ps sp) (h : j ≤ k) : FnG P w K mg base k f fd ps sp :=
  ⟨F.len, fun g r => F.run g (r.mono h)⟩
theorem FnG.imp {k : Nat} {f : Addr} {fd : FuncData} {ps : List Str} {sp sp' : Sp} (F : FnG P w K mg base k f fd ps sp) (h : ∀ vs H Q E, sp' vs H Q E → sp vs H Q E) : FnG P w K mg base k f fd ps sp' :=
  ⟨fun _ _ _ _ q => F.len _ _ _ _ (h _ _ _ _ q), fun g r e b v q => F.run g r e b v (h _ _ _ _ q)⟩
theorem guards_deeper {A : Around} {env : Env} (h : A.guards = some []) : (A.deeper env).guards = some [] := by
  first | exact h | (simp only [Around.deeper]; exact h)
theorem binds_kind {N ps : List Str} {sc : Scope} (S : FnScope N ps sc) (n : Nat) (us : List Value) : ∀ y ∈ ps.zip us, sc.names.lookup y.1 = some .local ∨ (sc.names.lookup y.1 = some .cell ∧ ((cellsFrom n sc.names []).lookup y.1).isSome = true) := by
  rintro ⟨x, v⟩ hy
  cases S.par x (List.of_mem_zip hy).1 with
  | inl q => exact .inl q
  | inr q => exact .inr ⟨q, PySem.W.cellsFrom_some _ _ _ (.inl q)⟩
theorem fnG_of {x qual : Str} {st : Stmt} {f : Addr} {fd : FuncData} {N ps : List Str} {k : Nat} {sp : Sp} (F : Fun K x qual st f fd) (S : FnScope N ps (defScope st)) (len : ∀ vs H Q E, sp vs H Q E → vs.length = ps.length)
    (body : ∀ (cdv : Value) (A : Around) (outer : List Env) (s : Shared) (H : Hp) (vs : List V) (Q : VK) (E : XK),
      (A.deeper (envOfC qual (defScope st) s.heap.objs.size f cdv)).guards = some [] → Room k (A.deeper (envOfC qual (defScope st) s.heap.objs.size f cdv)) → sp vs H Q E →
      ∃ t, PSs (cxOf (L2.CX P w) P w K mg base N qual (defScope st) f cdv A outer s H E) (defBody st) t ∧ t { nx := fun _ H' => Q .non H', rt := Q } (start N vs) H) :
    FnG P w K mg base (k + 1) f fd ps sp := by
  obtain ⟨oc, od, kV, doc, pm, an, cdv, ct, osl, rfl, lk, hcd⟩ := F.ex
  constructor
  · exact len
  intro A outer s H args us vs Q E g room e0 hb rv hsp
  have lv := len _ _ _ _ hsp
  have old : ∀ b o, base.get? b = some o → s.heap.get? b = some o := fun b o q => (e0.bs b o q).1
  have kin := e0.mod.kin.keeps old
  refine codeAny_call_function room.depth (kin _ _ lk) rfl S.co S.gen rfl (PySem.W.codeRec_of kin hcd) (hb _ _ _ _ ?_)
  refine wpAny_newFunctionEnv_cells S.kind (binds_kind S _ us) fun env he s1 z => ?_
  cases he
  refine ⟨(e0.mod.nolimit.keeps old).keeps z.toInCall.keep, codeAny_func ?_⟩
  obtain ⟨t, ht, hq⟩ := body cdv A outer s H vs Q E (guards_deeper g) (room.deeper _) hsp
  refine wpAny_mono (ht.run [] s1 (start N vs) H _ (inv_start S room.hd e0 lv rv z) hq) (fun fl s2 q => ?_) fun _ _ q => q
  cases fl with
  | next => exact (let ⟨σ', H', J, q⟩ := q; ⟨V.non, H', J.os, J.bare, J.base, J.hok, rfl, q⟩)
  | ret u => exact (let ⟨v, σ', H', J, r, q⟩ := q; ⟨v, H', J.os, J.bare, J.base, J.hok, r, q⟩)
  | brk => exact (let ⟨_, _, _, q⟩ := q; q.elim)
  | cont => exact (let ⟨_, _, _, q⟩ := q; q.elim)
end

/-! ### a def's data function, its promise -/
section
variable (K : PySem.W.Frag) (cl : ClT)
noncomputable def FinF (B : Addr → Prop) (H : Hp) (m : List Addr) (r : Res) (Q : VK) (E : XK) : Prop :=
  match r with
  | .ok x S' => ∀ v H' m', Step H m H' m' → Ok K cl B H' m' S' → RepA K cl (NN B m') H' m' v x → Q v H'
  | .exc e S' => ∀ c d H' m', Step H m H' m' → Ok K cl B H' m' S' → ExcAt K cl (NN B m') H' c d e → E c d H'
  | .bad => False
noncomputable def spF (n : Nat) (f : Fn) : Sp := fun vs H Q E => vs.length = n ∧ ∃ B m S xs, Ok K cl B H m S ∧ RepAs K cl (NN B m) H m vs xs ∧ FinF K cl B H m (f xs S) Q E
end
noncomputable def retF : SRes → Res
  | .nx _ S => .ok (.val .non) S
  | .rt x S => .ok x S
  | .exc e _ S => .exc e S
  | _ => .bad
/-- a body as a function: n slots -/
noncomputable def runF (n : Nat) (b : CS) : Fn := fun xs S => retF (b (xs.map some ++ List.replicate (n - xs.length) none) S)
section
variable {P : Program} {w : World} {K : PySem.W.Frag} {mg : Str → Option Value} {base : Heap} {cl : ClT}
theorem RepAs.length {N : Addr → Prop} {H : Hp} {m : List Addr} : ∀ {vs : List V} {xs : List A}, RepAs K cl N H m vs xs → vs.length = xs.length
  | _, _, .nil => rfl
  | _, _, .cons _ r => congrArg (· + 1) r.length
theorem RepAs.got {N : Addr → Prop} {H : Hp} {m : List Addr} : ∀ {vs : List V} {xs : List A} {i : Nat} {x : A}, RepAs K cl N H m vs xs → xs[i]? = some x → ∃ v, vs[i]? = some v ∧ RepA K cl N H m v x
  | _, _, 0, _, .cons h _, e => ⟨_, rfl, by cases e; exact h⟩
  | _, _, i + 1, _, .cons _ r, e => RepAs.got (i := i) r e
theorem env_start {B : Addr → Prop} {N : List Str} {H : Hp} {m : List Addr} {vs : List V} {xs : List A} (r : RepAs K cl (NN B m) H m vs xs) (hl : vs.length ≤ N.length) : EnvOk K cl (NN B m) H m (start N vs) (xs.map some ++ List.replicate (N.length - xs.length) none) := by
  have hx := r.length
  have hs : start N vs = vs.map some ++ List.replicate (N.length - vs.length) none := by
    first | rfl | (unfold start; rfl)
  refine ⟨by rw [hs]; simp [hx], fun i x h => ?_⟩
  have hi : i < xs.length := by
    by_cases hi : i < xs.length
    · exact hi
    · rw [List.getElem?_append_right (by simp; omega)] at h
      have := List.mem_of_getElem? h
      simp at this
  rw [List.getElem?_append_left (by simpa using hi), List.getElem?_map] at h
  cases e : xs[i]? with
  | none => rw [e] at h; cases h
  | some y =>
    rw [e] at h
    cases h
    obtain ⟨v, h1, h2⟩ := r.got e
    exact ⟨v, by rw [hs, List.getElem?_append_left (by simp; omega), List.getElem?_map, h1]; rfl, h2⟩
theorem fnM {x qual : Str} {st : Stmt} {f : Addr} {fd : FuncData} {N ps : List Str} {k : Nat} {b : CS} (F : Fun K x qual st f fd) (S : FnScope N ps (defScope st))
    (body : ∀ (cdv : Value) (A : Around) (outer : List Env) (s : Shared) (H : Hp) (E : XK),
      (A.deeper (envOfC qual (defScope st) s.heap.objs.size f cdv)).guards = some [] → Room k (A.deeper (envOfC qual (defScope st) s.heap.objs.size f cdv)) →
      Takes (cxOf (L2.CX P w) P w K mg base N qual (defScope st) f cdv A outer s H E) (fun c d _ H => E c d H) →
      PSs (cxOf (L2.CX P w) P w K mg base N qual (defScope st) f cdv A outer s H E) (defBody st) (tMS K cl (fun c d _ H => E c d H) b)) :
    FnG P w K mg base (k + 1) f fd ps (spF K cl ps.length (runF N.length b)) := by
  refine fnG_of F S (fun vs H Q E h => h.1) fun cdv A outer s H vs Q E g hr h => ?_
  obtain ⟨hl, B, m, S1, xs, o, r, fin⟩ := h
  have hpl : ps.length ≤ N.length := by have := congrArg List.length S.pre; rw [List.length_take] at this; omega
  refine ⟨_, body cdv A outer s H E g hr (takes_of rfl rfl rfl rfl), ⟨B, m, S1, _, o, env_start r (by omega), ?_⟩⟩
  unfold runF at fin
  have hx := r.length
  cases hb : b (xs.map some ++ List.replicate (N.length - xs.length) none) S1 with
  | bad => rw [hb] at fin; exact fin
  | bk _ _ => rw [hb] at fin; exact fin.elim
  | ct _ _ => rw [hb] at fin; exact fin.elim
  | nx ρ S' => rw [hb] at fin; exact fun σ H' m' s' o' e' => fin V.non H' m' s' o' .non
  | rt x S' => rw [hb] at fin; exact fun v H' m' s' o' r' => fin v H' m' s' o' r'
  | exc e ρ S' => rw [hb] at fin; exact fun c d σ H' m' s' o' e' x' => fin c d H' m' s' o' x'
end
end T3
namespace T3
open PySem PySem.Spec PyProof.Rows L2

/-! ### a call: the callee sees just the store's things that are handed to it -/
noncomputable def refsOf : List A → List Nat
  | [] => []
  | .ref i :: r => i :: refsOf r
  | .val _ :: r => refsOf r
noncomputable def renum : Nat → List A → List A
  | _, [] => []
  | k, .ref _ :: r => .ref k :: renum (k + 1) r
  | k, .val d :: r => .val d :: renum k r
noncomputable def getAll (S : Store) : List Nat → Option Store
  | [] => some []
  | i :: r => match S[i]?, getAll S r with
    | some o, some t => some (o :: t)
    | _, _ => none
noncomputable def putAll : Store → List Nat → Store → Store
  | S, i :: r, o :: t => putAll (S.set i o) r t
  | S, _, _ => S
noncomputable def flatO : O → Bool
  | .ins _ _ zs => (valsOf zs).isSome
  | _ => true
noncomputable def frzO : O → Option D
  | .lst ds => some (.lst ds)
  | .dic ks ds => some (.dic ks ds)
  | .ins c ns zs => if c < 1000 then (valsOf zs).map fun ds => .ins c ns ds else none
noncomputable def back (adopt : Bool) (rs : List Nat) (S : Store) (r : Res) : Res := match r with
  | .ok x S1 => if (S1.take rs.length).all flatO && decide (rs.length ≤ S1.length) then (match x with
    | .val d => .ok (.val d) (putAll S rs S1)
    | .ref j => match rs[j]?, S1[j]? with
      | some i, _ => .ok (.ref i) (putAll S rs S1)
      | none, some o => if adopt then (if flatO o then .ok (.ref (putAll S rs S1).length) (putAll S rs S1 ++ [o]) else .bad) else (match frzO o with
        | some d => .ok (.val d) (putAll S rs S1)
        | none => .bad)
      | none, none => .bad) else .bad
  | .exc e S1 => if (S1.take rs.length).all flatO && decide (rs.length ≤ S1.length) then .exc e (putAll S rs S1) else .bad
  | .bad => .bad
noncomputable def callIn (adopt : Bool) (f : Fn) (xs : List A) (S : Store) : Res :=
  if (refsOf xs).Nodup then (match getAll S (refsOf xs) with
    | some S0 => if S0.all flatO then back adopt (refsOf xs) S (f (renum 0 xs) S0) else .bad
    | none => .bad) else .bad

theorem nodup_at {α : Type} {l : List α} (h : l.Nodup) {i j : Nat} {a : α} (hi : l[i]? = some a) (hj : l[j]? = some a) : i = j := by
  have hp := List.pairwise_iff_getElem.mp h
  obtain ⟨i1, i2⟩ := List.getElem?_eq_some_iff.mp hi
  obtain ⟨j1, j2⟩ := List.getElem?_eq_some_iff.mp hj
  rcases Nat.lt_trichotomy i j with q | q | q
  · exact absurd (i2.trans j2.symm) (hp i j i1 j1 q)
  · exact q
  · exact absurd (j2.trans i2.symm) (hp j i j1 i1 q)
theorem getAll_len {S : Store} : ∀ {rs : List Nat} {t : Store}, getAll S rs = some t → t.length = rs.length
  | [], t, h => by cases h; rfl
  | i :: r, t, h => by
    simp only [getAll] at h
    split at h <;> cases h
    rename_i e1 e2
    simp [getAll_len e2]
theorem getAll_get {S : Store} : ∀ {rs : List Nat} {t : Store}, getAll S rs = some t → ∀ (j : Nat) i, rs[j]? = some i → ∃ o, S[i]? = some o ∧ t[j]? = some o
  | i :: r, t, h, j, k, hj => by
    simp only [getAll] at h
    split at h <;> cases h
    rename_i o' t' e1 e2
    cases j with
    | zero => cases hj; exact ⟨o', e1, rfl⟩
    | succ j => exact getAll_get e2 j k hj
theorem putAll_len : ∀ {rs : List Nat} {S t : Store}, (putAll S rs t).length = S.length
  | [], S, t => by cases t <;> rfl
  | i :: r, S, [] => rfl
  | i :: r, S, o :: t => by show (putAll (S.set i o) r t).length = _; rw [putAll_len, List.length_set]
theorem putAll_out : ∀ {rs : List Nat} {S t : Store} {i : Nat}, i ∉ rs → (putAll S rs t)[i]? = S[i]?
  | [], S, t, i, _ => by cases t <;> rfl
  | k :: r, S, [], i, _ => rfl
  | k :: r, S, o :: t, i, h => by
    show (putAll (S.set k o) r t)[i]? = _
    have hk : k ≠ i := fun z => h (by rw [z]; exact List.mem_cons_self)
    rw [putAll_out fun z => h (List.mem_cons_of_mem _ z), List.getElem?_set_ne hk]
theorem putAll_in : ∀ {rs : List Nat} {S t : Store} {j i : Nat} {o : O}, rs.Nodup → rs[j]? = some i → t[j]? = some o → i < S.length → (putAll S rs t)[i]? = some o
  | k :: r, S, o' :: t, 0, i, o, hn, h1, h2, hl => by
    cases h1
    cases h2
    show (putAll (S.set k o') r t)[k]? = _
    rw [putAll_out (List.nodup_cons.mp hn).1, List.getElem?_set_self hl]
  | k :: r, S, o' :: t, j + 1, i, o, hn, h1, h2, hl => putAll_in (S := S.set k o') (List.nodup_cons.mp hn).2 h1 h2 (by rw [List.length_set]; exact hl)
  | [], _, _, _, _, _, _, h1, _, _ => by simp at h1
  | _ :: _, _, [], _, _, _, _, _, h2, _ => by simp at h2

section
variable {K : PySem.W.Frag} {cl : ClT} {B : Addr → Prop} {H H' : Hp} {m m' : List Addr} {S S1 : Store}
theorem RepAs.flat {N : Addr → Prop} : ∀ {vs : List V} {zs : List A}, RepAs K cl N H m vs zs → (valsOf zs).isSome = true → RepAs K cl N H m' vs zs
  | _, _, .nil, _ => .nil
  | _, _, .cons (x := .val d) h r, hz => .cons h (RepAs.flat r (by
      cases e : valsOf _ with
      | none => simp [valsOf, e] at hz
      | some _ => rfl))
  | _, _, .cons (x := .ref _) h r, hz => by cases hz
theorem RepAs.weak {N N' : Addr → Prop} (hw : ∀ a, N a → N' a) : ∀ {vs : List V} {zs : List A}, RepAs K cl N' H m vs zs → RepAs K cl N H m vs zs
  | _, _, .nil => .nil
  | _, _, .cons (x := .val d) h r => .cons (x := .val d) (Rep.weak hw h) (RepAs.weak hw r)
  | _, _, .cons (x := .ref _) h r => .cons (x := .ref _) h (RepAs.weak hw r)
/-- seen from another store -/
theorem RepO.seen {N N' : Addr → Prop} (hw : ∀ a, N a → N' a) {a : Addr} {o : O} (h : RepO K cl N' H m a o) (hf : flatO o = true) : RepO K cl N H m' a o := by
  cases o with
  | lst ds => obtain ⟨xs, e, r⟩ := h; exact ⟨xs, e, r.weak hw⟩
  | dic ks ds => obtain ⟨xs, e, l, r⟩ := h; exact ⟨xs, e, l, r.weak hw⟩
  | ins c ns zs => obtain ⟨dx, xs, e, l, r⟩ := h; exact ⟨dx, xs, e, l, (r.weak hw).flat hf⟩
/-- the addresses of what is handed over -/
noncomputable def addrs (m : List Addr) (rs : List Nat) : List Addr := rs.map fun i => m.getD i 0
theorem addrs_get {rs : List Nat} {j i : Nat} {a : Addr} (h : rs[j]? = some i) (e : m[i]? = some a) : (addrs m rs)[j]? = some a := by
  unfold addrs
  rw [List.getElem?_map, h]
  simp [List.getD, e]
theorem refs_lt {N : Addr → Prop} : ∀ {vs : List V} {xs : List A}, RepAs K cl N H m vs xs → ∀ i ∈ refsOf xs, i < m.length
  | _, _, .nil, i, h => by cases h
  | _, _, .cons (x := .val d) _ r, i, h => refs_lt r i h
  | _, _, .cons (x := .ref j) ⟨a, e, _⟩ r, i, h => by
    rcases List.mem_cons.mp h with h | h
    · rw [h]; exact (List.getElem?_eq_some_iff.mp e).1
    · exact refs_lt r i h
theorem renum_ok {N : Addr → Prop} {all : List Nat} : ∀ {vs : List V} {xs : List A} (k : Nat), RepAs K cl N H m vs xs → (∀ j i, (refsOf xs)[j]? = some i → all[k + j]? = some i) → RepAs K cl N H (addrs m all) vs (renum k xs)
  | _, _, _, .nil, _ => .nil
  | _, _, k, .cons (x := .val d) h r, ha => .cons h (renum_ok k r ha)
  | _, _, k, .cons (x := .ref i) ⟨a, e, ev⟩ r, ha => .cons ⟨a, addrs_get (ha 0 i rfl) e, ev⟩ (renum_ok (k + 1) r fun j i hj => by
      have := ha (j + 1) i hj
      rwa [show k + (j + 1) = k + 1 + j by omega] at this)
/-- the callee's state -/
theorem Ok.sub (o : Ok K cl B H m S) {rs : List Nat} {S0 : Store} (hn : rs.Nodup) (hl : ∀ i ∈ rs, i < m.length) (hg : getAll S rs = some S0) (hf : S0.all flatO = true) : Ok K cl (fun a => NN B m a ∧ a ∉ addrs m rs) H (addrs m rs) S0 := by
  have hm : ∀ a ∈ addrs m rs, a ∈ m := fun a ha => by
    obtain ⟨i, hi, rfl⟩ := List.mem_map.mp ha
    have := hl i hi
    simp [List.getD, List.getElem?_eq_getElem this]
  refine ⟨fun a ha => ⟨o.may ha.1, ha.2⟩, ?_, ?_, fun j a u hj hu => ?_, o.tabs⟩
  · rw [getAll_len hg]; simp [addrs]
  · unfold addrs
    rw [List.Nodup, List.pairwise_map]
    refine List.Pairwise.imp_of_mem (fun {i j} hi hj hij e => ?_) hn
    have h1 := hl i hi
    have h2 := hl j hj
    simp only [List.getD, List.getElem?_eq_getElem h1, List.getElem?_eq_getElem h2, Option.getD_some] at e
    exact hij (nodup_at o.nd (List.getElem?_eq_getElem h1) (by rw [e]; exact List.getElem?_eq_getElem h2))
  · have hjl : j < rs.length := by rw [← getAll_len hg]; exact (List.getElem?_eq_some_iff.mp hu).1
    obtain ⟨v, e1, e2⟩ := getAll_get hg j rs[j] (List.getElem?_eq_getElem hjl)
    rw [hu] at e2; cases e2
    obtain ⟨b, eb, rb⟩ := o.at e1
    have e3 := addrs_get (List.getElem?_eq_getElem hjl) eb
    rw [hj] at e3; cases e3
    refine rb.seen (fun c hc => ?_) (List.all_eq_true.mp hf u (List.mem_of_getElem? hu))
    rcases hc with hc | hc
    · exact hc.1
    · exact .inr (hm c hc)
/-- back in the caller's state -/
theorem Ok.back (o : Ok K cl B H m S) {rs : List Nat} (hn : rs.Nodup) (hl : ∀ i ∈ rs, i < m.length) (s : Step H (addrs m rs) H' m') (o1 : Ok K cl (fun a => NN B m a ∧ a ∉ addrs m rs) H' m' S1) (hf : (S1.take rs.length).all flatO = true) (hz : rs.length ≤ S1.length) :
    Step H m H' m ∧ Ok K cl B H' m (putAll S rs S1) ∧ (∀ a, NN B m a → NN (fun a => NN B m a ∧ a ∉ addrs m rs) m' a) := by
  obtain ⟨r, rfl, hr⟩ := s.ext
  have hm : ∀ a ∈ addrs m rs, a ∈ m := fun a ha => by
    obtain ⟨i, hi, rfl⟩ := List.mem_map.mp ha
    have := hl i hi
    simp [List.getD, List.getElem?_eq_getElem this]
  have hw : ∀ a, NN B m a → NN (fun a => NN B m a ∧ a ∉ addrs m rs) (addrs m rs ++ r) a := fun a ha => by
    by_cases q : a ∈ addrs m rs
    · exact .inr (List.mem_append_left _ q)
    · exact .inl ⟨ha, q⟩
  have st : Step H m H' m := ⟨⟨[], by simp, by simp⟩, fun a u e hn nt => s.keep a u e (fun z => hn (hm a z)) nt, fun a e => s.some e⟩
  refine ⟨st, ⟨fun a ha => ⟨s.some (o.foreign a ha).1, (o.foreign a ha).2⟩, by rw [putAll_len]; exact o.len, o.nd, fun i a u hi hu => ?_, o1.tabs⟩, hw⟩
  by_cases q : i ∈ rs
  · obtain ⟨j, hj, e⟩ := List.getElem_of_mem q
    have hj' : rs[j]? = some i := by rw [List.getElem?_eq_getElem hj, e]
    have hjs : j < S1.length := Nat.lt_of_lt_of_le hj hz
    have e1 := putAll_in (S := S) hn hj' (List.getElem?_eq_getElem hjs) (by rw [← o.len]; exact hl i q)
    rw [hu] at e1
    cases e1
    have ea := addrs_get hj' hi
    have lj : j < (addrs m rs).length := (List.getElem?_eq_some_iff.mp ea).1
    have ro := o1.obj j a _ (by rw [List.getElem?_append_left lj]; exact ea) (List.getElem?_eq_getElem hjs)
    refine ro.seen hw (List.all_eq_true.mp hf _ ?_)
    rw [List.mem_take_iff_getElem]
    exact ⟨j, by omega, rfl⟩
  · rw [putAll_out q] at hu
    have ro := o.obj i a u hi hu
    have na : a ∉ addrs m rs := fun z => by
      obtain ⟨k, hk, e⟩ := List.mem_map.mp z
      have h2 := hl k hk
      simp only [List.getD, List.getElem?_eq_getElem h2, Option.getD_some] at e
      exact q ((nodup_at o.nd hi (by rw [← e]; exact List.getElem?_eq_getElem h2)) ▸ hk)
    have kp : Kp (NN B m) (NN B m) H H' := st.kp fun a h => (o.foreign a h).2
    have e1 : H' a = H a := by
      cases e : H a with
      | none => exact absurd e ro.there
      | some v => exact s.keep a v e na (RepO.nt ro e).1
    exact ro.mono kp ⟨[], by simp⟩ e1
/-- what is handed over stands as it did -/
theorem frz_ok {N N' : Addr → Prop} (hw : ∀ a, N a → N' a) {a : Addr} {o : O} {d : D} (h : RepO K cl N' H m a o) (n : ¬ N a) (hf : frzO o = some d) : Rep K cl N H (.ref a) d := by
  cases o with
  | lst ds => cases hf; obtain ⟨xs, e, r⟩ := h; exact .lst e n (r.weak hw)
  | dic ks ds => cases hf; obtain ⟨xs, e, l, r⟩ := h; exact .dic e n l (r.weak hw)
  | ins c ns zs =>
    have hf : (if c < 1000 then (valsOf zs).map fun ds => D.ins c ns ds else none) = some d := hf
    by_cases hc : c < 1000
    case neg => rw [if_neg hc] at hf; cases hf
    rw [if_pos hc] at hf
    simp only [Option.map_eq_some_iff] at hf
    obtain ⟨ds, hd, rfl⟩ := hf
    obtain ⟨dx, xs, e, l, r⟩ := h
    exact .ins (.inl ⟨hc, dx, e, n, l⟩) (valsOf_ok (r.weak hw) hd)
theorem ExcAt.weak {N N' : Addr → Prop} (hw : ∀ a, N a → N' a) {c : Value} {d : Option Addr} {e : X0} (h : ExcAt K cl N' H c d e) : ExcAt K cl N H c d e := by
  obtain ⟨h1, h2⟩ := h
  refine ⟨h1, ?_⟩
  rcases h2 with h2 | ⟨da, xs, e1, e2, n, l, r⟩
  · exact .inl h2
  · exact .inr ⟨da, xs, e1, e2, fun z => n (hw _ z), l, r.weak hw⟩
/-- THE CALL -/
theorem callIn_ok {n : Nat} {f : Fn} {adopt : Bool} {xs : List A} {vs : List V} {σ : L2.St} {W : WX} {Q : VK} (o : Ok K cl B H m S) (r : RepAs K cl (NN B m) H m vs xs) (hn : vs.length = n) (h : Fin K cl B σ H m W (callIn adopt f xs S) Q) : spF K cl n f vs H Q (WE W σ) := by
  unfold callIn at h
  split at h
  · rename_i hnd
    split at h
    · rename_i S0 hg
      split at h
      · rename_i hf
        have hl := refs_lt r
        have o0 := o.sub hnd hl hg hf
        have hm : ∀ a ∈ addrs m (refsOf xs), a ∈ m := fun a ha => by
          obtain ⟨i, hi, rfl⟩ := List.mem_map.mp ha
          have := hl i hi
          simp [List.getD, List.getElem?_eq_getElem this]
        have r0 : RepAs K cl (NN (fun a => NN B m a ∧ a ∉ addrs m (refsOf xs)) (addrs m (refsOf xs))) H (addrs m (refsOf xs)) vs (renum 0 xs) := by
          refine RepAs.weak (N' := NN B m) (fun a ha => ?_) (renum_ok 0 r fun j i hj => by rw [Nat.zero_add]; exact hj)
          rcases ha with ha | ha
          · exact ha.1
          · exact .inr (hm a ha)
        refine ⟨hn, _, _, S0, _, o0, r0, ?_⟩
        cases hr : f (renum 0 xs) S0 with
        | bad => rw [hr] at h; exact h
        | exc e S1 =>
          rw [hr] at h
          intro c d H' m' s' o' x'
          unfold back at h
          dsimp only at h
          split at h
          · rename_i hc
            simp only [Bool.and_eq_true, decide_eq_true_eq] at hc
            obtain ⟨st, ok, hw⟩ := o.back hnd hl s' o' hc.1 hc.2
            exact h c d H' m st ok (x'.weak hw)
          · exact h.elim
        | ok x S1 =>
          rw [hr] at h
          intro v H' m' s' o' x'
          unfold back at h
          dsimp only at h
          split at h
          · rename_i hc
            simp only [Bool.and_eq_true, decide_eq_true_eq] at hc
            obtain ⟨st, ok, hw⟩ := o.back hnd hl s' o' hc.1 hc.2
            have len' : (putAll S (refsOf xs) S1).length = m.length := by rw [putAll_len]; exact o.len.symm
            cases x with
            | val d => exact h v H' m st ok (Rep.weak hw x')
            | ref j =>
              obtain ⟨a, ea, rfl⟩ := x'
              obtain ⟨q, rfl, hq⟩ := s'.ext
              dsimp only at h
              split at h
              · rename_i i hi
                refine h (.ref a) H' m st ok ⟨m.getD i 0, ?_, ?_⟩
                · have := hl i (List.mem_of_getElem? hi)
                  simp [List.getD, List.getElem?_eq_getElem this]
                · have e2 := addrs_get hi (List.getElem?_eq_getElem (hl i (List.mem_of_getElem? hi)))
                  rw [List.getElem?_append_left (List.getElem?_eq_some_iff.mp e2).1, e2] at ea
                  cases ea
                  have := hl i (List.mem_of_getElem? hi)
                  simp [List.getD, List.getElem?_eq_getElem this]
              · rename_i u hj hu
                have hj' : (addrs m (refsOf xs)).length ≤ j := by
                  have := List.getElem?_eq_none_iff.mp hj
                  simpa [addrs] using this
                have aq : a ∈ q := by
                  rw [List.getElem?_append_right hj'] at ea
                  exact List.mem_of_getElem? ea
                have ro := o'.obj j a u ea hu
                have ha0 : H a = none := hq a aq
                have hnm : a ∉ m := fun z => o.may (.inr z) ha0
                split at h
                · split at h
                  · rename_i hfl
                    -- it becomes the caller's own
                    refine h (.ref a) H' (m ++ [a]) ⟨⟨[a], rfl, fun b hb => by rw [List.mem_singleton.mp hb]; exact ha0⟩, st.keep, st.stay⟩ ?_ ⟨a, by rw [len', List.getElem?_append_right (Nat.le_refl _)]; simp, rfl⟩
                    have hw2 : ∀ b, NN B (m ++ [a]) b → NN (fun a => NN B m a ∧ a ∉ addrs m (refsOf xs)) (addrs m (refsOf xs) ++ q) b := fun b hb => by
                      rcases hb with hb | hb
                      · exact hw b (.inl hb)
                      · rcases List.mem_append.mp hb with hb | hb
                        · exact hw b (.inr hb)
                        · rw [List.mem_singleton.mp hb]; exact .inr (List.mem_append_right _ aq)
                    refine ⟨fun b hb => ⟨(ok.foreign b hb).1, fun z => ?_⟩, by simp [len'], ?_, fun i b w hi hw' => ?_, ok.tabs⟩
                    · rcases List.mem_append.mp z with z | z
                      · exact (o.foreign b hb).2 z
                      · rw [List.mem_singleton.mp z] at hb; exact (o.foreign a hb).1 ha0
                    · rw [List.nodup_append]
                      exact ⟨o.nd, by simp, fun b hb c hc => by rw [List.mem_singleton.mp hc]; exact fun e => hnm (e ▸ hb)⟩
                    · by_cases hlt : i < m.length
                      · rw [List.getElem?_append_left hlt] at hi
                        rw [List.getElem?_append_left (by rw [len']; exact hlt)] at hw'
                        by_cases hin : i ∈ refsOf xs
                        · obtain ⟨k, hk, ek⟩ := List.getElem_of_mem hin
                          have hk' : (refsOf xs)[k]? = some i := by rw [List.getElem?_eq_getElem hk, ek]
                          have hks : k < S1.length := Nat.lt_of_lt_of_le hk hc.2
                          have e1 := putAll_in (S := S) hnd hk' (List.getElem?_eq_getElem hks) (by rw [← o.len]; exact hl i hin)
                          rw [hw'] at e1
                          cases e1
                          have eb := addrs_get hk' hi
                          have ro2 := o'.obj k b _ (by rw [List.getElem?_append_left (List.getElem?_eq_some_iff.mp eb).1]; exact eb) (List.getElem?_eq_getElem hks)
                          refine ro2.seen hw2 (List.all_eq_true.mp hc.1 _ ?_)
                          rw [List.mem_take_iff_getElem]
                          exact ⟨k, by omega, rfl⟩
                        · rw [putAll_out hin] at hw'
                          have ro2 := o.obj i b w hi hw'
                          have kp : Kp (NN B m) (NN B (m ++ [a])) H H' := ⟨fun c z hz hn nt => st.keep c z hz (fun y => hn (.inr y)) nt, fun c z => by
                            rcases z with z | z
                            · exact .inl (.inl z)
                            · rcases List.mem_append.mp z with z | z
                              · exact .inl (.inr z)
                              · rw [List.mem_singleton.mp z]; exact .inr ha0⟩
                          refine ro2.mono kp ⟨[a], rfl⟩ ?_
                          cases e : H b with
                          | none => exact absurd e ro2.there
                          | some v =>
                            refine s'.keep b v e (fun z => ?_) (RepO.nt ro2 e).1
                            obtain ⟨k, hk, e⟩ := List.mem_map.mp z
                            have h2 := hl k hk
                            simp only [List.getD, List.getElem?_eq_getElem h2, Option.getD_some] at e
                            exact hin ((nodup_at o.nd hi (by rw [← e]; exact List.getElem?_eq_getElem h2)) ▸ hk)
                      · have hi' := (List.getElem?_eq_some_iff.mp hi).1
                        have e : i = m.length := by simp at hi'; omega
                        subst e
                        rw [List.getElem?_append_right (Nat.le_refl _)] at hi
                        rw [← len', List.getElem?_append_right (Nat.le_refl _)] at hw'
                        simp at hi hw'
                        subst hi hw'
                        exact ro.seen hw2 hfl
                  · exact h.elim
                · split at h
                  · rename_i d hd
                    exact h (.ref a) H' m st ok (frz_ok hw ro (o.fresh ha0) hd)
                  · exact h.elim
              · exact h.elim
          · exact h.elim
      · exact h.elim
    · exact h.elim
  · exact h.elim
end
end T3
namespace T3
open PySem PySem.Spec PyProof.Rows L2

/-! ### calls of the text's own defs -/
section
variable {X : Cx} {cl : ClT} {W : WX}
theorem run_fnG {pins : List (Addr × Obj)} {σ : L2.St} {H : Hp} {s : Shared} {Q : VK} {k : Nat} {f : Addr} {fd : FuncData} {ps : List Str} {sp : Sp} {args : Args} {us : List Value} {vs : List V} (F : FnG X.prog X.w X.K X.mg X.base k f fd ps sp) (hr : Room k X.A)
    (g : X.A.guards = some []) (tk : Takes X W) (I : Inv X pins σ H s) (hb : BindsTo s fd args (ps.zip us)) (r : Vals vs us) (h : sp vs H Q (WE W σ)) : wpAny (model X.prog X.w) X.A (call (.ref f) args.pos args.kw) (EP X pins σ Q) X.xe s := by
  refine wpAny_call (codeAny_mono (F.run g hr I.env0 hb r h) fun res s' q => ?_)
  cases res with
  | error e => exact passAt tk σ pins H s e s' I q
  | ok fl =>
    cases fl with
    | ret u => exact I.after q
    | next | brk | cont => exact q.elim
/-- a def that may be called: its level, its name, how many arguments, what it is -/
structure CalG (P : Program) (w : World) (K : PySem.W.Frag) (mg : Str → Option Value) (base : Heap) (cl : ClT) (j : Nat) (nm : Str) (n : Nat) (f : Fn) : Prop where
  ex : ∃ (fa : Addr) (fd : FuncData) (ps : List Str), mg nm = some (.ref fa) ∧ PySem.W.keepIn K (.ref fa) = true ∧ Binds K fd ps [] ∧ ps.length = n ∧ FnG P w K mg base j fa fd ps (spF K cl n f)
noncomputable def cCall (n : Nat) (adopt : Bool) (f : Fn) (c : CA) : CE := fun ρ S => (c ρ S).bind fun xs S1 => if xs.length = n then callIn adopt f xs S1 else .bad
theorem call_ok {n : Nat} {adopt : Bool} {f : Fn} {c : CA} {σ : L2.St} {H : Hp} {Q : VK} (h : tM X.K cl W (cCall n adopt f c) σ H Q) : tML X.K cl W c σ H fun vs H1 => spF X.K cl n f vs H1 Q (WE W σ) := by
  obtain ⟨B, m, S, ρ, o, e, fin⟩ := h
  refine ⟨B, m, S, ρ, o, e, FinL.bind fin fun xs S1 vs H1 m1 s1 o1 r1 f1 => ?_⟩
  split at f1
  · rename_i hl
    exact callIn_ok o1 r1 (r1.length.trans hl) f1
  · exact f1.elim
theorem pm_call (adopt : Bool) {nm : Str} {n j k : Nat} {f : Fn} {e : Expr} {es : List Expr} {c : CA} {p pos : Pos} (C : CalG X.prog X.w X.K X.mg X.base cl j nm n f) (hr : Room k X.A) (g : X.A.guards = some []) (tk : Takes X W) (hg : Gl X nm)
    (ha : PA X (e :: es) (tML X.K cl W c)) (hk : j ≤ k := by decide) (hdb : (nm == ("__debug__" : Str)) = false := by decide) (he : starEach (e :: es) X.env = (false, eval e X.env) :: starEach es X.env := by rfl)
    (hpl : (backTo pos (starEach es X.env)).any (·.1) = false := by rfl) :
    PE X (.Call (.Name nm p) (e :: es) [] pos) (tM X.K cl W (cCall n adopt f c)) := by
  obtain ⟨fa, fd, ps, hm, hkp, hb, hps, F⟩ := C.ex
  refine ⟨fun pins s σ H Q I h => ?_⟩
  refine wpAny_Call_Name_kw (ld_glob I hg hm ?_ hdb)
  refine PySem.W.callWith_K (h₀ := X.base) I.ok.mod.kin hkp (thn (ha.run pos pins s σ H _ I (call_ok h)) fun us s1 ⟨vs, H1, I1, r, q⟩ => ⟨I1.kIn, ?_⟩) he hpl
  have hl : us.length = ps.length := by rw [← r.length, q.1, hps]
  have b := hb s1 us I1.kIn (by rw [List.append_nil]; exact hl)
  rw [List.append_nil] at b
  exact run_fnG (F.up hk) hr g tk I1 b r q
noncomputable def cCall0 (adopt : Bool) (f : Fn) : CE := fun _ S => callIn adopt f [] S
theorem pm_call0 (adopt : Bool) {nm : Str} {j k : Nat} {f : Fn} {p pos : Pos} (C : CalG X.prog X.w X.K X.mg X.base cl j nm 0 f) (hr : Room k X.A) (g : X.A.guards = some []) (tk : Takes X W) (hg : Gl X nm)
    (hk : j ≤ k := by decide) (hdb : (nm == ("__debug__" : Str)) = false := by decide) :
    PE X (.Call (.Name nm p) [] [] pos) (tM X.K cl W (cCall0 adopt f)) := by
  obtain ⟨fa, fd, ps, hm, hkp, hb, hps, F⟩ := C.ex
  refine ⟨fun pins s σ H Q I h => ?_⟩
  refine wpAny_Call_Name_kw (ld_glob I hg hm ?_ hdb)
  obtain ⟨B, m, S, ρ, o, e, fin⟩ := h
  have b := hb s [] I.kIn (by rw [hps]; rfl)
  exact PySem.W.callWith_K0 I.kIn hkp (run_fnG (args := ⟨[], []⟩) (us := []) (vs := []) (F.up hk) hr g tk I b .nil (callIn_ok o .nil rfl fin))

/-! ### keywords alone: perm tells which of them each parameter takes -/
structure KB (K : PySem.W.Frag) (fd : FuncData) (ps ks : List Str) (perm : List Nat) : Prop where
  to : ∀ (s : Shared) (ws : List Value), K.In s.heap → ws.length = ks.length → ∃ us, perm.map (fun i => ws[i]?) = us.map some ∧ BindsTo s fd ⟨[], ks.zip ws⟩ (ps.zip us)
structure CalK (P : Program) (w : World) (K : PySem.W.Frag) (mg : Str → Option Value) (base : Heap) (cl : ClT) (j : Nat) (nm : Str) (n : Nat) (f : Fn) (ks : List Str) (perm : List Nat) : Prop where
  ex : ∃ (fa : Addr) (fd : FuncData) (ps : List Str), mg nm = some (.ref fa) ∧ PySem.W.keepIn K (.ref fa) = true ∧ KB K fd ps ks perm ∧ FnG P w K mg base j fa fd ps (spF K cl n f)
noncomputable def pick (xs : List A) : List Nat → Option (List A)
  | [] => some []
  | i :: r => match xs[i]?, pick xs r with
    | some x, some t => some (x :: t)
    | _, _ => none
noncomputable def cCallK (n q : Nat) (adopt : Bool) (perm : List Nat) (f : Fn) (c : CA) : CE := fun ρ S => (c ρ S).bind fun xs S1 => if xs.length = q then (match pick xs perm with
  | some ys => if ys.length = n then callIn adopt f ys S1 else .bad
  | none => .bad) else .bad
theorem pick_ok {K : PySem.W.Frag} {N : Addr → Prop} {H : Hp} {m : List Addr} {vs : List V} {us : List Value} {xs : List A} (r : RepAs K cl N H m vs xs) (q : Vals vs us) : ∀ {perm : List Nat} {ys : List A} {ws : List Value}, pick xs perm = some ys → perm.map (fun i => us[i]?) = ws.map some → ∃ zs, RepAs K cl N H m zs ys ∧ Vals zs ws
  | [], ys, ws, h, hw => by
    cases h
    cases ws with
    | nil => exact ⟨[], .nil, .nil⟩
    | cons _ _ => cases hw
  | i :: p, ys, ws, h, hw => by
    simp only [pick] at h
    split at h <;> cases h
    rename_i x t h1 h2
    cases ws with
    | nil => cases hw
    | cons u ws =>
      rw [List.map_cons, List.map_cons, List.cons.injEq] at hw
      obtain ⟨v, e1, r1⟩ := r.got h1
      obtain ⟨u', e2, q1⟩ := q.get e1
      rw [hw.1] at e2
      cases e2
      obtain ⟨zs, a, b⟩ := pick_ok r q h2 hw.2
      exact ⟨v :: zs, .cons r1 a, .cons q1 b⟩
structure PKM (X : Cx) (cl : ClT) (W : WX) (kws : List Keyword) (c : CA) : Prop where
  pk : PK X kws (tML X.K cl W c)
theorem PK.imp {kws : List Keyword} {t u : TA} (h : PK X kws t) (k : ∀ σ H Q, u σ H Q → t σ H Q) : PK X kws u := ⟨fun pos pins s σ H Q I q => h.run pos pins s σ H Q I (k _ _ _ q)⟩
theorem tNil_ok {σ : L2.St} {H : Hp} {Q : List V → Hp → Prop} (h : tML X.K cl W cNil σ H Q) : tNil σ H Q := by
  obtain ⟨B, m, S, ρ, o, e, fin⟩ := h
  exact fin [] H m Step.refl o .nil
theorem tCons_ok {c : CE} {r : CA} {σ : L2.St} {H : Hp} {Q : List V → Hp → Prop} (h : tML X.K cl W (cCons c r) σ H Q) : tCons (tM X.K cl W c) (tML X.K cl W r) σ H Q := by
  obtain ⟨B, m, S, ρ, o, e, fin⟩ := h
  refine ⟨B, m, S, ρ, o, e, ?_⟩
  unfold cCons at fin
  cases h1 : c ρ S with
  | bad => rw [h1] at fin; exact fin
  | exc x S1 => rw [h1] at fin; exact fin
  | ok x S1 =>
    rw [h1] at fin
    intro v H1 m1 s1 o1 r1
    refine ⟨B, m1, S1, ρ, o1, s1.env o e, ?_⟩
    dsimp only at fin
    cases h2 : r ρ S1 with
    | bad => rw [h2] at fin; exact fin
    | exc y S2 => rw [h2] at fin; exact fun c d H' m' s' => fin c d H' m' (s1.trans s')
    | ok xs S2 =>
      rw [h2] at fin
      intro vs H2 m2 s2 o2 r2
      exact fin (v :: vs) H2 m2 (s1.trans s2) o2 (.cons (s2.rep o1 r1) r2)
theorem pkm_nil : PK X [] (tML X.K cl W cNil) := PK.imp pk_nil fun _ _ _ h => tNil_ok h
theorem pkm_cons {e : Expr} {kws : List Keyword} {nm : Option Str} {kpos : Pos} {c : CE} {r : CA} (ha : PE X e (tM X.K cl W c)) (hr : PK X kws (tML X.K cl W r)) : PK X (⟨nm, e, kpos⟩ :: kws) (tML X.K cl W (cCons c r)) := PK.imp (pk_cons ha hr) fun _ _ _ h => tCons_ok h
theorem pm_callK (adopt : Bool) {nm : Str} {n j k : Nat} {f : Fn} {kws : List Keyword} {c : CA} {p pos : Pos} {ks : List Str} {perm : List Nat} (C : CalK X.prog X.w X.K X.mg X.base cl j nm n f ks perm) (hr : Room k X.A) (g : X.A.guards = some []) (tk : Takes X W) (hg : Gl X nm)
    (hkw : PK X kws (tML X.K cl W c)) (hall : (backToKw pos (keywordEach kws X.env)).all (·.1.isSome) = true := by rfl) (hks : (backToKw pos (keywordEach kws X.env)).filterMap (·.1) = ks := by rfl)
    (hk : j ≤ k := by decide) (hdb : (nm == ("__debug__" : Str)) = false := by decide) (hpl : ((backTo pos (starEach [] X.env)).any (·.1) || (backToKw pos (keywordEach kws X.env)).any (·.1.isNone)) = false := by rfl) :
    PE X (.Call (.Name nm p) [] kws pos) (tM X.K cl W (cCallK n ks.length adopt perm f c)) := by
  obtain ⟨fa, fd, ps, hm, hkp, hb, F⟩ := C.ex
  refine ⟨fun pins s σ H Q I h => ?_⟩
  refine wpAny_Call_Name_kw (ld_glob I hg hm ?_ hdb)
  have h' : tML X.K cl W c σ H fun vs H1 => vs.length = ks.length ∧ ∀ us ws, Vals vs us → perm.map (fun i => us[i]?) = ws.map some → ∃ zs, Vals zs ws ∧ spF X.K cl n f zs H1 Q (WE W σ) := by
    obtain ⟨B, m, S, ρ, o, e, fin⟩ := h
    refine ⟨B, m, S, ρ, o, e, FinL.bind fin fun xs S1 vs H1 m1 s1 o1 r1 f1 => ?_⟩
    split at f1
    · rename_i hl
      refine ⟨r1.length.trans hl, fun us ws q hw => ?_⟩
      split at f1
      · rename_i ys hy
        split at f1
        · rename_i hn
          obtain ⟨zs, a, b⟩ := pick_ok r1 q hy hw
          exact ⟨zs, b, callIn_ok o1 a (a.length.trans hn) f1⟩
        · exact f1.elim
      · exact f1.elim
    · exact f1.elim
  refine PySem.W.callWith_KW0 (h₀ := X.base) I.ok.mod.kin hkp hall (thn (hkw.run pos pins s σ H _ I h') fun us s1 ⟨vs, H1, I1, r, hl, q⟩ => ⟨I1.kIn, ?_⟩) hpl
  rw [hks]
  obtain ⟨ws, e1, b⟩ := hb.to s1 us I1.kIn (by rw [← r.length]; exact hl)
  obtain ⟨zs, rz, q⟩ := q us ws r e1
  exact run_fnG (args := ⟨[], ks.zip us⟩) (F.up hk) hr g tk I1 b rz q
end
end T3
namespace T3
open PySem PySem.Spec PyProof.Rows L2

/-! ### targets -/
abbrev CT := A → Slots → Store → Option (Slots × Store)
noncomputable def TgOk (K : PySem.W.Frag) (cl : ClT) (g : TG) (t : CT) : Prop :=
  ∀ {B : Addr → Prop} {H : Hp} {m : List Addr} {S S' : Store} {v : V} {x : A} {σ : L2.St} {ρ ρ' : Slots} {Q : L2.St → Hp → Prop}, Ok K cl B H m S → EnvOk K cl (NN B m) H m σ ρ → RepA K cl (NN B m) H m v x → t x ρ S = some (ρ', S') →
    (∀ σ' H' m', Step H m H' m' → Ok K cl B H' m' S' → EnvOk K cl (NN B m') H' m' σ' ρ' → Q σ' H') → g v σ H Q
noncomputable def tgName (i : Nat) : CT := fun x ρ S => some (ρ.set i (some x), S)
noncomputable def tgNil : List D → Slots → Store → Option (Slots × Store) := fun ds ρ S => if ds.isEmpty then some (ρ, S) else none
noncomputable def tgCons (t : CT) (u : List D → Slots → Store → Option (Slots × Store)) : List D → Slots → Store → Option (Slots × Store) := fun ds ρ S => match ds with
  | d :: r => (match t (.val d) ρ S with
    | some (ρ', S') => u r ρ' S'
    | none => none)
  | [] => none
noncomputable def tgTup (n : Nat) (u : List D → Slots → Store → Option (Slots × Store)) : CT := fun x ρ S => match x with
  | .val (.tup ds) => if ds.length = n then u ds ρ S else none
  | .val (.wt ds) => if ds.length = n then u ds ρ S else none
  | _ => none
/-- a tuple or a list taken apart -/
noncomputable def tgSeq (n : Nat) (u : List D → Slots → Store → Option (Slots × Store)) : CT := fun x ρ S => match asL S x with
  | some ds => if ds.length = n then u ds ρ S else none
  | none => none
/-- a[i] = .. of a list of the store: the place's parts change nothing -/
noncomputable def tgSub (co ci : CE) : CT := fun x ρ S => match co ρ S, x with
  | .ok (.ref j) S1, .val d => (match ci ρ S1 with
    | .ok (.val (.int k)) S2 => (match S2[j]? with
      | some (.lst ds) => (match ixN ds.length k with
        | some q => some (ρ, S2.set j (.lst (ds.set q d)))
        | none => none)
      | _ => none)
    | _ => none)
  | _, _ => none

section
variable {X : Cx} {cl : ClT} {W : WX}
theorem tg_name (i : Nat) : TgOk X.K cl (gName i) (tgName i) := by
  intro B H m S S' v x σ ρ ρ' Q o e r h k
  cases h
  exact k _ H m Step.refl o (e.set i r)
noncomputable def TgsOk (K : PySem.W.Frag) (cl : ClT) (g : TGs) (t : List D → Slots → Store → Option (Slots × Store)) : Prop :=
  ∀ {B : Addr → Prop} {H : Hp} {m : List Addr} {S S' : Store} {vs : List V} {ds : List D} {σ : L2.St} {ρ ρ' : Slots} {Q : L2.St → Hp → Prop}, Ok K cl B H m S → EnvOk K cl (NN B m) H m σ ρ → RepL K cl (NN B m) H vs ds → t ds ρ S = some (ρ', S') →
    (∀ σ' H' m', Step H m H' m' → Ok K cl B H' m' S' → EnvOk K cl (NN B m') H' m' σ' ρ' → Q σ' H') → g vs σ H Q
theorem tgs_nil : TgsOk X.K cl gNil tgNil := by
  intro B H m S S' vs ds σ ρ ρ' Q o e r h k
  unfold tgNil at h
  split at h <;> cases h
  rename_i hd
  have : ds = [] := List.isEmpty_iff.mp hd
  subst this
  cases r
  exact ⟨rfl, k _ H m Step.refl o e⟩
theorem tgs_cons {g : TG} {gs : TGs} {t : CT} {u : List D → Slots → Store → Option (Slots × Store)} (hg : TgOk X.K cl g t) (hs : TgsOk X.K cl gs u) : TgsOk X.K cl (gCons g gs) (tgCons t u) := by
  intro B H m S S' vs ds σ ρ ρ' Q o e r h k
  unfold tgCons at h
  cases r with
  | nil => cases h
  | @cons v vs d ds h1 r =>
    dsimp only at h
    split at h
    · rename_i ρ1 S1 h2
      refine ⟨v, vs, rfl, hg (x := .val d) o e h1 h2 fun σ1 H1 m1 s1 o1 e1 => ?_⟩
      refine hs o1 e1 (r.mono (s1.kp fun a h => (o.foreign a h).2)) h fun σ' H' m' s' o' e' => k σ' H' m' (s1.trans s') o' e'
    · cases h
theorem tg_tup {n : Nat} {gs : TGs} {u : List D → Slots → Store → Option (Slots × Store)} (hs : TgsOk X.K cl gs u) : TgOk X.K cl (gTup X.K n gs) (tgTup n u) := by
  intro B H m S S' v x σ ρ ρ' Q o e r h k
  unfold tgTup at h
  split at h
  · rename_i ds
    split at h
    · rename_i hl
      obtain ⟨a, vs, rfl, q, rl⟩ := asT_ok (x := .val (.tup ds)) r rfl
      exact ⟨a, vs, rfl, q, rl.length.trans hl, hs o e rl h k⟩
    · cases h
  · rename_i ds
    split at h
    · rename_i hl
      cases r with
      | wt q n rl => exact ⟨_, _, rfl, .inl q, rl.length.trans hl, hs o e rl h k⟩
    · cases h
  · cases h
theorem tg_seq {n : Nat} {gs : TGs} {u : List D → Slots → Store → Option (Slots × Store)} (hs : TgsOk X.K cl gs u) : TgOk X.K cl (gUnl X.K n gs) (tgSeq n u) := by
  intro B H m S S' v x σ ρ ρ' Q o e r h k
  unfold tgSeq at h
  split at h
  · rename_i ds hd
    split at h
    · rename_i hl
      obtain ⟨a, vs, rfl, q, rl⟩ := asL_ok o r hd
      exact ⟨a, vs, rfl, q, rl.length.trans hl, hs o e rl h k⟩
    · cases h
  · cases h
/-- a list of the store with an item more, or changed -/
theorem Ok.write (K : PySem.W.Frag) {B : Addr → Prop} {H : Hp} {m : List Addr} {S : Store} (o : Ok K cl B H m S) {j : Nat} {a : Addr} {u : O} {w : HO} (ha : m[j]? = some a) (hr : ∀ H', (∀ b, b ≠ a → H' b = H b) → H' a = some w → RepO K cl (NN B m) H' m a u) :
    Step H m (upd H a w) m ∧ Ok K cl B (upd H a w) m (S.set j u) := by
  have ham : a ∈ m := List.mem_of_getElem? ha
  have hn : NN B m a := .inr ham
  have st : Step H m (upd H a w) m := ⟨⟨[], by simp, by simp⟩, fun b v e hb _ => by rw [upd_ne fun z => hb (by rw [z]; exact ham)]; exact e, fun b e => by
    by_cases z : b = a
    · rw [z, upd_same]; exact fun q => by cases q
    · rw [upd_ne z]; exact e⟩
  have kp : Kp (NN B m) (NN B m) H (upd H a w) := st.kp fun b h => (o.foreign b h).2
  refine ⟨st, fun b hb => ⟨st.some (o.foreign b hb).1, (o.foreign b hb).2⟩, by rw [List.length_set]; exact o.len, o.nd, fun i b v hi hv => ?_, tabs_upd (.inr (o.nt ham)) o.tabs⟩
  by_cases hij : j = i
  · subst hij
    rw [ha] at hi
    cases hi
    rw [List.getElem?_set_self (by rw [← o.len]; exact (List.getElem?_eq_some_iff.mp ha).1)] at hv
    cases hv
    exact hr _ (fun b hb => upd_ne hb) upd_same
  · rw [List.getElem?_set_ne hij] at hv
    have hba : b ≠ a := fun z => hij (nodup_at o.nd ha (by rw [← z]; exact hi))
    exact (o.obj i b v hi hv).mono kp ⟨[], by simp⟩ (upd_ne hba)
theorem kp_at {N : Addr → Prop} {H H' : Hp} {a : Addr} (hn : N a) (h : ∀ b, b ≠ a → H' b = H b) : Kp N N H H' := ⟨fun b o e hb _ => by rw [h b fun z => hb (z ▸ hn)]; exact e, fun _ z => .inl z⟩
theorem tg_sub {to ti : TE} {co ci : CE} (ho : to = tM X.K cl W co) (hi : ti = tM X.K cl W ci) : TgOk X.K cl (gSub to ti rSetL) (tgSub co ci) := by
  subst ho hi
  intro B H m S S' v x σ ρ ρ' Q o e r h k
  unfold tgSub at h
  split at h
  · rename_i j S1 d h1
    split at h
    · rename_i kk S2 h2
      split at h
      · rename_i ds h3
        split at h
        · rename_i q h4
          cases h
          refine ⟨B, m, S, ρ, o, e, ?_⟩
          rw [h1]
          intro w H1 m1 s1 o1 r1
          refine ⟨B, m1, S1, ρ, o1, s1.env o e, ?_⟩
          rw [h2]
          intro z H2 m2 s2 o2 r2
          obtain ⟨a, ha, rfl⟩ := s2.rep o1 r1
          cases r2
          obtain ⟨xs, e1, r3⟩ := o2.obj j a _ ha h3
          have rd := (s1.trans s2).rep o r
          refine ⟨a, xs, kk, q, rfl, rfl, e1, by rw [r3.length]; exact h4, ?_⟩
          obtain ⟨st, ok⟩ := Ok.write X.K o2 (u := .lst (ds.set q d)) (w := .lst (xs.set q v)) ha fun H' hb hw => ⟨_, hw, (RepL.set (d := d) rd q r3).mono (kp_at (.inr (List.mem_of_getElem? ha)) hb)⟩
          exact k σ _ m2 ((s1.trans s2).trans st) ok (st.env o2 ((s1.trans s2).env o e))
        · cases h
      · cases h
    · cases h
  · cases h
end

/-! ### statements -/
noncomputable def sNil : CS := fun ρ S => .nx ρ S
noncomputable def sSeq (a b : CS) : CS := fun ρ S => match a ρ S with
  | .nx ρ' S' => b ρ' S'
  | r => r
noncomputable def sAsg (t : CT) (c : CE) : CS := fun ρ S => (c ρ S).bindS ρ fun x S1 => match t x ρ S1 with
  | some (ρ', S') => .nx ρ' S'
  | none => .bad
noncomputable def sExp (c : CE) : CS := fun ρ S => (c ρ S).bindS ρ fun _ S1 => .nx ρ S1
noncomputable def sRet (c : CE) : CS := fun ρ S => (c ρ S).bindS ρ fun x S1 => .rt x S1
noncomputable def sIf (c : CE) (a b : CS) : CS := fun ρ S => (c ρ S).bindS ρ fun x S1 => match x with
  | .val (.bl true) => a ρ S1
  | .val (.bl false) => b ρ S1
  | _ => .bad
noncomputable def forL (body : D → CS) : List D → CS
  | [], ρ, S => .nx ρ S
  | d :: r, ρ, S => match body d ρ S with
    | .nx ρ' S' => forL body r ρ' S'
    | .ct ρ' S' => forL body r ρ' S'
    | .bk ρ' S' => .nx ρ' S'
    | q => q
/-- what is walked: a list of data -/
inductive IRes where
  | ok (xs : List D) (S : Store) | exc (e : X0) (S : Store) | bad
abbrev CI := Slots → Store → IRes
noncomputable def sFor (ci : CI) (t : CT) (b : CS) : CS := fun ρ S => match ci ρ S with
  | .ok xs S1 => forL (fun d ρ S => match t (.val d) ρ S with
    | some (ρ', S') => b ρ' S'
    | none => .bad) xs ρ S1
  | .exc e S1 => .exc e ρ S1
  | .bad => .bad
noncomputable def whileN (c : CE) (b : CS) : Nat → CS
  | 0, _, _ => .bad
  | n + 1, ρ, S => (c ρ S).bindS ρ fun x S1 => match x with
    | .val (.bl true) => (match b ρ S1 with
      | .nx ρ' S' => whileN c b n ρ' S'
      | .ct ρ' S' => whileN c b n ρ' S'
      | .bk ρ' S' => .nx ρ' S'
      | q => q)
    | .val (.bl false) => .nx ρ S1
    | _ => .bad

section
variable {K : PySem.W.Frag} {cl : ClT} {B : Addr → Prop} {H : Hp} {m : List Addr} {W : WX} {σ : L2.St} {ρ : Slots}
theorem FinS.bind {r : Res} {f : A → Store → SRes} {E : Ends} {R : VK} {S : Store} (o : Ok K cl B H m S) (e : EnvOk K cl (NN B m) H m σ ρ) (h : FinS K cl B H m W (r.bindS ρ f) E)
    (k : ∀ x S' v H' m', Step H m H' m' → Ok K cl B H' m' S' → EnvOk K cl (NN B m') H' m' σ ρ → RepA K cl (NN B m') H' m' v x → FinS K cl B H' m' W (f x S') E → R v H') : Fin K cl B σ H m W r R := by
  cases r with
  | ok x S' => exact fun v H' m' s o' r => k x S' v H' m' s o' (s.env o e) r (FinS.step s h)
  | exc e' S' => exact fun c d H' m' s o' x' => h c d σ H' m' s o' (s.env o e) x'
  | bad => exact h
theorem FinS.bindT {r : Res} {f g : Store → SRes} {E : Ends} {R : Bool → Hp → Prop} {S : Store} (o : Ok K cl B H m S) (e : EnvOk K cl (NN B m) H m σ ρ)
    (h : FinS K cl B H m W (r.bindS ρ fun x S1 => match x with
      | .val (.bl true) => f S1
      | .val (.bl false) => g S1
      | _ => .bad) E)
    (k : ∀ S' H' m', Step H m H' m' → Ok K cl B H' m' S' → EnvOk K cl (NN B m') H' m' σ ρ → (FinS K cl B H' m' W (f S') E → R true H') ∧ (FinS K cl B H' m' W (g S') E → R false H')) : FinT K cl B σ H m W r R := by
  cases r with
  | bad => exact h
  | exc e' S' => exact fun c d H' m' s o' x' => h c d σ H' m' s o' (s.env o e) x'
  | ok x S' =>
    cases x with
    | ref i => exact h
    | val d =>
      cases d with
      | bl b =>
        cases b with
        | true => exact fun H' m' s' o' => (k S' H' m' s' o' (s'.env o e)).1 (FinS.step s' h)
        | false => exact fun H' m' s' o' => (k S' H' m' s' o' (s'.env o e)).2 (FinS.step s' h)
      | _ => exact h
theorem FinS.here {S : Store} {E : Ends} (h : FinS K cl B H m W (.nx ρ S) E) (o : Ok K cl B H m S) (e : EnvOk K cl (NN B m) H m σ ρ) : E.nx σ H := h σ H m Step.refl o e
/-- other ends -/
theorem FinS.ends {r : SRes} {E E' : Ends} (h : FinS K cl B H m W r E) (h1 : E.rt = E'.rt) (h2 : ∀ ρ S, r = .nx ρ S → FinS K cl B H m W (.nx ρ S) E') (h3 : ∀ ρ S, r = .bk ρ S → FinS K cl B H m W (.bk ρ S) E') (h4 : ∀ ρ S, r = .ct ρ S → FinS K cl B H m W (.ct ρ S) E') : FinS K cl B H m W r E' := by
  cases r with
  | nx ρ S => exact h2 ρ S rfl
  | bk ρ S => exact h3 ρ S rfl
  | ct ρ S => exact h4 ρ S rfl
  | rt x S => exact fun v H' m' s o r => h1 ▸ h v H' m' s o r
  | exc e ρ S => exact h
  | bad => exact h
end
section
variable {X : Cx} {cl : ClT} {W : WX}
theorem pms_nil : PSs X [] (tMS X.K cl W sNil) := PSs.imp pss_nil fun E σ H h => by
  obtain ⟨B, m, S, ρ, o, e, fin⟩ := h
  exact fin.here o e
theorem pms_cons {st : Stmt} {rest : List Stmt} {a b : CS} (h1 : PS X st (tMS X.K cl W a)) (h2 : PSs X rest (tMS X.K cl W b)) : PSs X (st :: rest) (tMS X.K cl W (sSeq a b)) := PSs.imp (pss_cons h1 h2) fun E σ H h => by
  obtain ⟨B, m, S, ρ, o, e, fin⟩ := h
  refine ⟨B, m, S, ρ, o, e, ?_⟩
  unfold sSeq at fin
  cases ha : a ρ S with
  | nx ρ' S' =>
    rw [ha] at fin
    exact fun σ' H' m' s' o' e' => ⟨B, m', S', ρ', o', e', FinS.step s' fin⟩
  | bk ρ' S' => rw [ha] at fin; exact fin
  | ct ρ' S' => rw [ha] at fin; exact fin
  | rt x S' => rw [ha] at fin; exact fin
  | exc x ρ' S' => rw [ha] at fin; exact fin
  | bad => rw [ha] at fin; exact fin
theorem pms_one {st : Stmt} {a : CS} (h1 : PS X st (tMS X.K cl W a)) : PSs X [st] (tMS X.K cl W a) := pss_one h1
theorem tAsg_ok {g : TG} {t : CT} {c : CE} (hg : TgOk X.K cl g t) {E : Ends} {σ : L2.St} {H : Hp} (h : tMS X.K cl W (sAsg t c) E σ H) : tAsg (tM X.K cl W c) g E σ H := by
  obtain ⟨B, m, S, ρ, o, e, fin⟩ := h
  refine ⟨B, m, S, ρ, o, e, FinS.bind o e fin fun x S1 v H1 m1 s1 o1 e1 r1 f1 => ?_⟩
  split at f1
  · rename_i ρ' S' ht
    exact hg o1 e1 r1 ht fun σ' H' m' s' o' e' => f1 σ' H' m' s' o' e'
  · exact f1.elim
theorem pm_set (i : Nat) {x : Str} {e : Expr} {c : CE} {pos pos' : Pos} (hN : X.N.Nodup) (he : PE X e (tM X.K cl W c)) (hi : X.N[i]? = some x := by rfl) (hx : Loc X.env.scope x := by first | exact Or.inl rfl | exact Or.inr rfl)
    (hs : swapsWith e (some (.Name x pos')) pos.line X.env = pure false := by rfl) (hf : X.fn x = true ∨ X.env.scope.names.lookup x = some .local := by first | exact .inl rfl | exact .inr rfl) :
    PS X (.Assign [.Name x pos'] e pos) (tMS X.K cl W (sAsg (tgName i) c)) := PS.imp (ps_set hN hi hx he hs hf) fun _ _ _ h => tAsg_ok (tg_name i) h
theorem pm_asg {tg e : Expr} {c : CE} {g : TG} {t : CT} {pos : Pos} (he : PE X e (tM X.K cl W c)) (hg : PG X tg g) (ht : TgOk X.K cl g t) (hs : swapsWithSole [tg] e pos.line X.env = pure false := by rfl) (hw : swappedStores [tg] e X.env = pure none := by rfl)
    (h1 : (assignEach [tg] X.env).map (·.2) = [assign tg X.env] := by rfl) : PS X (.Assign [tg] e pos) (tMS X.K cl W (sAsg t c)) := PS.imp (ps_asg he hg hs hw h1) fun _ _ _ h => tAsg_ok ht h
theorem pm_exp {e : Expr} {c : CE} {pos : Pos} (he : PE X e (tM X.K cl W c)) (hs : swapsWith e none pos.line X.env = pure false := by rfl) : PS X (.Expr e pos) (tMS X.K cl W (sExp c)) := PS.imp (ps_expr he hs) fun E σ H h => by
  obtain ⟨B, m, S, ρ, o, e, fin⟩ := h
  exact ⟨B, m, S, ρ, o, e, FinS.bind o e fin fun x S1 v H1 m1 s1 o1 e1 r1 f1 => f1.here o1 e1⟩
theorem pm_ret {e : Expr} {c : CE} {pos : Pos} (he : PE X e (tM X.K cl W c)) : PS X (.Return (some e) pos) (tMS X.K cl W (sRet c)) := PS.imp (ps_ret he) fun E σ H h => by
  obtain ⟨B, m, S, ρ, o, e, fin⟩ := h
  exact ⟨B, m, S, ρ, o, e, FinS.bind o e fin fun x S1 v H1 m1 s1 o1 e1 r1 f1 => f1 v H1 m1 Step.refl o1 r1⟩
theorem pm_ifs {c : Expr} {a b : List Stmt} {ct : CE} {ca cb : CS} {pos : Pos} (hc : PT X c (tMT X.K cl W ct)) (ha : PSs X a (tMS X.K cl W ca)) (hb : PSs X b (tMS X.K cl W cb)) : PS X (.If c a b pos) (tMS X.K cl W (sIf ct ca cb)) := PS.imp (ps_if hc ha hb) fun E σ H h => by
  obtain ⟨B, m, S, ρ, o, e, fin⟩ := h
  refine ⟨B, m, S, ρ, o, e, FinS.bindT (f := ca ρ) (g := cb ρ) o e fin fun S1 H1 m1 s1 o1 e1 => ⟨fun q => ?_, fun q => ?_⟩⟩
  · exact iteT ⟨B, m1, S1, ρ, o1, e1, q⟩
  · exact iteF ⟨B, m1, S1, ρ, o1, e1, q⟩

/-! ### loops -/
/-- what a walk hands out -/
structure Src (K : PySem.W.Frag) (cl : ClT) (live : (Addr → Prop) → Hp → Prop) (J : It) (xs : List D) : Prop where
  keep : ∀ {N N' H H'}, live N H → Kp N N' H H' → live N' H'
  go : ∀ {N H} (i : Nat), live N H → i < xs.length → J.go i H
  yld : ∀ {B H m S} (i : Nat) {y H'}, Ok K cl B H m S → live (NN B m) H → J.yld i H y H' → ∃ d, (i < xs.length → xs[i]? = some d) ∧ Step H m H' m ∧ Ok K cl B H' m S ∧ Rep K cl (NN B m) H' y d
  stop : ∀ {N H}, live N H → J.stop xs.length H
theorem Src.step {K : PySem.W.Frag} {cl : ClT} {live : (Addr → Prop) → Hp → Prop} {J : It} {xs : List D} (src : Src K cl live J xs) {B : Addr → Prop} {H H' : Hp} {m m' : List Addr} {S : Store} (o : Ok K cl B H m S) (l : live (NN B m) H) (s : Step H m H' m') : live (NN B m') H' :=
  src.keep l (s.kp fun a h => (o.foreign a h).2)
noncomputable def FinI (K : PySem.W.Frag) (cl : ClT) (B : Addr → Prop) (σ : L2.St) (H : Hp) (m : List Addr) (W : WX) (r : IRes) (R : It → Hp → Prop) : Prop :=
  match r with
  | .ok xs S' => ∀ J live H' m', Step H m H' m' → Ok K cl B H' m' S' → live (NN B m') H' → Src K cl live J xs → R J H'
  | .exc e S' => ∀ c d H' m', Step H m H' m' → Ok K cl B H' m' S' → ExcAt K cl (NN B m') H' c d e → W c d σ H'
  | .bad => False
noncomputable def tMI (K : PySem.W.Frag) (cl : ClT) (W : WX) (ci : CI) : TI := fun σ H R => ∃ B m S ρ, Ok K cl B H m S ∧ EnvOk K cl (NN B m) H m σ ρ ∧ FinI K cl B σ H m W (ci ρ S) R
theorem tFor_ok {ci : CI} {g : TG} {t : CT} {b : CS} (hg : TgOk X.K cl g t) {E : Ends} {σ : L2.St} {H : Hp} (h : tMS X.K cl W (sFor ci t b) E σ H) : tFor (tMI X.K cl W ci) g (tMS X.K cl W b) E σ H := by
  obtain ⟨B, m, S, ρ, o, e, fin⟩ := h
  refine ⟨B, m, S, ρ, o, e, ?_⟩
  unfold sFor at fin
  cases hi : ci ρ S with
  | bad => rw [hi] at fin; exact fin
  | exc e' S' => rw [hi] at fin; exact fun c d H' m' s o' x' => fin c d σ H' m' s o' (s.env o e) x'
  | ok xs S1 =>
    rw [hi] at fin
    intro J live H1 m1 s1 o1 l1 src
    let bd : D → CS := fun d ρ S => match t (.val d) ρ S with
      | some (ρ', S') => b ρ' S'
      | none => .bad
    refine ⟨fun i n σ H => n = xs.length - i ∧ i ≤ xs.length ∧ ∃ m S ρ, Ok X.K cl B H m S ∧ EnvOk X.K cl (NN B m) H m σ ρ ∧ live (NN B m) H ∧ FinS X.K cl B H m W (forL bd (xs.drop i) ρ S) E,
      ⟨xs.length, by simp, Nat.zero_le _, m1, S1, ρ, o1, s1.env o e, l1, FinS.step s1 fin⟩, ?_⟩
    rintro i n σ2 H2 ⟨rfl, hle, m2, S2, ρ2, o2, e2, l2, f2⟩
    by_cases hlt : i < xs.length
    · refine .inr ⟨src.go i l2 hlt, fun σ H => i + 1 ≤ xs.length ∧ ∃ m S ρ, Ok X.K cl B H m S ∧ EnvOk X.K cl (NN B m) H m σ ρ ∧ live (NN B m) H ∧ FinS X.K cl B H m W (forL bd (xs.drop (i + 1)) ρ S) E,
        fun σ' H' hn => ⟨xs.length - (i + 1), by omega, rfl, hn⟩, fun y H3 hy => ?_⟩
      obtain ⟨d, hd, s3, o3, r3⟩ := src.yld i o2 l2 hy
      have hd := hd hlt
      have e3 := s3.env o2 e2
      have l3 := src.step o2 l2 s3
      rw [List.drop_eq_getElem_cons hlt] at f2
      rw [List.getElem?_eq_getElem hlt] at hd
      cases hd
      have f3 := FinS.step s3 f2
      have f3 : FinS X.K cl B H3 m2 W (match bd xs[i] ρ2 S2 with
        | .nx ρ' S' => forL bd (xs.drop (i + 1)) ρ' S'
        | .ct ρ' S' => forL bd (xs.drop (i + 1)) ρ' S'
        | .bk ρ' S' => .nx ρ' S'
        | q => q) E := f3
      cases ht : t (.val xs[i]) ρ2 S2 with
      | none =>
        have hb : bd xs[i] ρ2 S2 = .bad := by show (match t (.val xs[i]) ρ2 S2 with | some (ρ', S') => b ρ' S' | none => .bad) = _; rw [ht]
        rw [hb] at f3
        exact f3.elim
      | some z =>
        obtain ⟨ρ4, S4⟩ := z
        have hb : bd xs[i] ρ2 S2 = b ρ4 S4 := by show (match t (.val xs[i]) ρ2 S2 with | some (ρ', S') => b ρ' S' | none => .bad) = _; rw [ht]
        rw [hb] at f3
        refine hg (x := .val xs[i]) o3 e3 r3 ht fun σ4 H4 m4 s4 o4 e4 => ⟨B, m4, S4, ρ4, o4, e4, ?_⟩
        have f4 := FinS.step s4 f3
        have l4 := src.step o3 l3 s4
        cases hr : b ρ4 S4 with
        | bad => rw [hr] at f4; exact f4
        | exc e' ρ' S' => rw [hr] at f4; exact f4
        | rt x S' => rw [hr] at f4; exact f4
        | nx ρ' S' => rw [hr] at f4; exact fun σ' H' m' s' o' e' => ⟨hlt, m', S', ρ', o', e', src.step o4 l4 s', FinS.step s' f4⟩
        | ct ρ' S' => rw [hr] at f4; exact fun σ' H' m' s' o' e' => ⟨hlt, m', S', ρ', o', e', src.step o4 l4 s', FinS.step s' f4⟩
        | bk ρ' S' => rw [hr] at f4; exact fun σ' H' m' s' o' e' => f4 σ' H' m' s' o' e'
    · have hi : i = xs.length := by omega
      subst hi
      rw [List.drop_length] at f2
      exact .inl ⟨src.stop l2, f2.here o2 e2⟩
theorem pm_for {tg iter : Expr} {body : List Stmt} {ci : CI} {g : TG} {t : CT} {b : CS} {pos : Pos} (hp : PassesOwn (model X.prog X.w) X.A X.env X.xe) (hc : X.calm = true) (hi : PI X tg iter (tMI X.K cl W ci)) (hg : PG X tg g) (ht : TgOk X.K cl g t) (hb : PSs X body (tMS X.K cl W b))
    (hs : ∀ x, foldedSetIterable iter X.env x = pure x := by intro _; rfl) : PS X (.For tg iter body [] pos) (tMS X.K cl W (sFor ci t b)) := PS.imp (ps_for hp hc hi hg hb hs) fun _ _ _ h => tFor_ok ht h
theorem pm_while (n : Nat) {c : Expr} {body : List Stmt} {ct : CE} {b : CS} {pos : Pos} (hp : PassesOwn (model X.prog X.w) X.A X.env X.xe) (hc : PT X c (tMT X.K cl W ct)) (hb : PSs X body (tMS X.K cl W b)) : PS X (.While c body [] pos) (tMS X.K cl W (whileN ct b n)) :=
  PS.imp (ps_while hp hc hb) fun E σ H h => by
  refine ⟨fun k σ H => tMS X.K cl W (whileN ct b k) E σ H, ⟨n, h⟩, ?_⟩
  intro k σ H h
  obtain ⟨B, m, S, ρ, o, e, fin⟩ := h
  cases k with
  | zero => exact fin.elim
  | succ k =>
    refine ⟨B, m, S, ρ, o, e, FinS.bindT (f := fun S1 => match b ρ S1 with
      | .nx ρ' S' => whileN ct b k ρ' S'
      | .ct ρ' S' => whileN ct b k ρ' S'
      | .bk ρ' S' => .nx ρ' S'
      | q => q) (g := fun S1 => .nx ρ S1) o e fin fun S1 H1 m1 s1 o1 e1 => ⟨fun q => ?_, fun q => ?_⟩⟩
    · refine iteT ⟨fun σ H => tMS X.K cl W (whileN ct b k) E σ H, fun σ' H' z => ⟨k, Nat.lt_succ_self _, z⟩, B, m1, S1, ρ, o1, e1, ?_⟩
      cases hr : b ρ S1 with
      | bad => rw [hr] at q; exact q
      | exc e' ρ' S' => rw [hr] at q; exact q
      | rt x S' => rw [hr] at q; exact q
      | nx ρ' S' => rw [hr] at q; exact fun σ' H' m' s' o' e' => ⟨B, m', S', ρ', o', e', FinS.step s' q⟩
      | ct ρ' S' => rw [hr] at q; exact fun σ' H' m' s' o' e' => ⟨B, m', S', ρ', o', e', FinS.step s' q⟩
      | bk ρ' S' => rw [hr] at q; exact fun σ' H' m' s' o' e' => q σ' H' m' s' o' e'
    · exact iteF (q.here o1 e1)
end
end T3
namespace T3
open PySem PySem.Spec PyProof.Rows L2

/-! ### what is walked -/
noncomputable def rangeD (lo : Int) (n : Nat) : List D := (List.range n).map fun i => .int (lo + (i : Nat))
noncomputable def ciR1 (c : CE) : CI := fun ρ S => match c ρ S with
  | .ok (.val (.int j)) S1 => if decide (-1000000 ≤ j) && decide (j ≤ 1000000) then .ok (rangeD 0 j.toNat) S1 else .bad
  | .exc e S1 => .exc e S1
  | _ => .bad
noncomputable def ciR2 (c d : CE) : CI := fun ρ S => match c ρ S with
  | .ok (.val (.int i)) S1 => (match d ρ S1 with
    | .ok (.val (.int j)) S2 => if decide (-1000000 ≤ i) && decide (i ≤ 1000000) && decide (-1000000 ≤ j) && decide (j ≤ 1000000) then .ok (rangeD i (j - i).toNat) S2 else .bad
    | .exc e S1 => .exc e S1
    | _ => .bad)
  | .exc e S1 => .exc e S1
  | _ => .bad
noncomputable def signsD (s : Str) : List D := s.cps.toList.map fun c => .str ⟨#[c]⟩
/-- a list, a tuple, a text that nobody changes -/
noncomputable def ciV (c : CE) : CI := fun ρ S => match c ρ S with
  | .ok (.val (.lst ds)) S1 => .ok ds S1
  | .ok (.val (.ro ds)) S1 => .ok ds S1
  | .ok (.val (.tup ds)) S1 => .ok ds S1
  | .ok (.val (.str s)) S1 => .ok (signsD s) S1
  | .exc e S1 => .exc e S1
  | _ => .bad
noncomputable def enumD : Nat → List D → List D
  | _, [] => []
  | k, d :: r => .wt [.int (k : Nat), d] :: enumD (k + 1) r
noncomputable def ciE (c : CE) : CI := fun ρ S => match c ρ S with
  | .ok (.val (.lst ds)) S1 => .ok (enumD 0 ds) S1
  | .ok (.val (.ro ds)) S1 => .ok (enumD 0 ds) S1
  | .exc e S1 => .exc e S1
  | _ => .bad
theorem enumD_len : ∀ (k : Nat) (ds : List D), (enumD k ds).length = ds.length
  | _, [] => rfl
  | k, _ :: r => congrArg (· + 1) (enumD_len (k + 1) r)
theorem enumD_get : ∀ (k : Nat) (ds : List D) (i : Nat) (d : D), ds[i]? = some d → (enumD k ds)[i]? = some (.wt [.int ((k + i : Nat) : Nat), d])
  | k, [], i, d, h => by simp at h
  | k, a :: r, 0, d, h => by cases h; rfl
  | k, a :: r, i + 1, d, h => by
    have := enumD_get (k + 1) r i d h
    show (enumD (k + 1) r)[i]? = _
    rw [this, show k + 1 + i = k + (i + 1) by omega]
section
variable {X : Cx} {cl : ClT} {W : WX}
theorem src_rng (K : PySem.W.Frag) {lo : Int} {n : Nat} : Src K cl (fun _ _ => True) (Itr lo n) (rangeD lo n) where
  keep := fun _ _ => trivial
  go := fun i _ h => by
    show i < n
    simpa [rangeD] using h
  yld := fun {B H m S} i {y H'} o _ h => by
    obtain ⟨rfl, rfl⟩ := h
    refine ⟨.int (lo + i), fun hi => ?_, Step.refl, o, .int _⟩
    have hi' : i < n := by simpa [rangeD] using hi
    simp [rangeD, hi']
  stop := fun _ => by
    show n ≤ (rangeD lo n).length
    simp [rangeD]
theorem PI.imp {tg iter : Expr} {w u : TI} (h : PI X tg iter w) (k : ∀ σ H R, u σ H R → w σ H R) : PI X tg iter u := ⟨fun pins s σ H R I q => h.run pins s σ H R I (k _ _ _ q)⟩
theorem PI.or {tg iter : Expr} {w u : TI} (h : PI X tg iter w) (k : PI X tg iter u) : PI X tg iter (fun σ H R => w σ H R ∨ u σ H R) := ⟨fun pins s σ H R I q => q.elim (h.run pins s σ H R I) (k.run pins s σ H R I)⟩
theorem pi_r1 {tg a : Expr} {c : CE} {p pos : Pos} (hm : X.mg "range" = none) (ha : PE X a (tM X.K cl W c)) (hg : Gl X "range" := by rfl) (hs : starEach [a] X.env = (false, eval a X.env) :: starEach [] X.env := by rfl) : PI X tg (.Call (.Name "range" p) [a] [] pos) (tMI X.K cl W (ciR1 c)) :=
  PI.imp (pi_range1 hg hm (pa_cons ha pa_nil hs) hs) fun σ H R h => by
  obtain ⟨B, m, S, ρ, o, e, fin⟩ := h
  refine ⟨B, m, S, ρ, o, e, ?_⟩
  unfold ciR1 at fin
  cases hc : c ρ S with
  | bad => rw [hc] at fin; exact fin
  | exc e' S1 => rw [hc] at fin; exact fin
  | ok x S1 =>
    rw [hc] at fin
    intro v H1 m1 s1 o1 r1
    cases x with
    | ref i => exact fin.elim
    | val d =>
      cases d with
      | int j =>
        cases r1
        dsimp only at fin
        split at fin
        · rename_i hz
          simp only [Bool.and_eq_true, decide_eq_true_eq] at hz
          exact ⟨j, rfl, by omega, by omega, fin _ _ H1 m1 s1 o1 trivial (src_rng X.K)⟩
        · exact fin.elim
      | _ => exact fin.elim
theorem pi_r2 {tg a b : Expr} {c d : CE} {p pos : Pos} (hm : X.mg "range" = none) (ha : PE X a (tM X.K cl W c)) (hb : PE X b (tM X.K cl W d)) (hg : Gl X "range" := by rfl) (hs : starEach [a, b] X.env = (false, eval a X.env) :: starEach [b] X.env := by rfl)
    (hs2 : starEach [b] X.env = (false, eval b X.env) :: starEach [] X.env := by rfl) : PI X tg (.Call (.Name "range" p) [a, b] [] pos) (tMI X.K cl W (ciR2 c d)) :=
  PI.imp (pi_range2 hg hm (pa_cons ha (pa_cons hb pa_nil hs2) hs) (hs.trans (by rw [hs2]; rfl)) hs2) fun σ H R h => by
  obtain ⟨B, m, S, ρ, o, e, fin⟩ := h
  refine ⟨B, m, S, ρ, o, e, ?_⟩
  unfold ciR2 at fin
  cases hc : c ρ S with
  | bad => rw [hc] at fin; exact fin
  | exc e' S1 => rw [hc] at fin; exact fin
  | ok x S1 =>
    rw [hc] at fin
    intro v H1 m1 s1 o1 r1
    cases x with
    | ref i => exact fin.elim
    | val z =>
      cases z with
      | int i =>
        cases r1
        dsimp only at fin
        refine ⟨B, m1, S1, ρ, o1, s1.env o e, ?_⟩
        cases hd : d ρ S1 with
        | bad => rw [hd] at fin; exact fin
        | exc e' S2 => rw [hd] at fin; exact fun c d H' m' s' => fin c d H' m' (s1.trans s')
        | ok y S2 =>
          rw [hd] at fin
          intro w H2 m2 s2 o2 r2
          cases y with
          | ref i => exact fin.elim
          | val z =>
            cases z with
            | int j =>
              cases r2
              dsimp only at fin
              split at fin
              · rename_i hz
                simp only [Bool.and_eq_true, decide_eq_true_eq] at hz
                exact ⟨i, j, rfl, by omega, fin _ _ H2 m2 (s1.trans s2) o2 trivial (src_rng X.K)⟩
              · exact fin.elim
            | _ => exact fin.elim
      | _ => exact fin.elim
theorem src_lst {K : PySem.W.Frag} {a : Addr} {ds : List D} {d : D} (hd : d = .lst ds ∨ d = .ro ds) : Src K cl (fun N H => Rep K cl N H (.ref a) d) (Itl K a) ds := by
  have view : ∀ {N H}, Rep K cl N H (.ref a) d → ∃ vs, SqL K H a vs ∧ RepL K cl N H vs ds := fun {N H} h => by
    rcases hd with rfl | rfl
    · cases h with
      | lst e n r => exact ⟨_, .of e, r⟩
    · cases h with
      | ro e r => exact ⟨_, e.seq, r⟩
  refine ⟨fun h k => h.mono k, fun i h hi => ?_, fun {B H m S} i {y H'} o h hy => ?_, fun h => ?_⟩
  · obtain ⟨vs, q, r⟩ := view h
    obtain ⟨v, e, _⟩ := r.got (List.getElem?_eq_getElem hi)
    exact ⟨vs, v, q, e⟩
  · obtain ⟨vs, q, r⟩ := view h
    obtain ⟨rfl, hy⟩ := hy
    obtain ⟨d, h1, h2⟩ := r.get (hy vs q)
    exact ⟨d, fun _ => h1, Step.refl, o, h2⟩
  · obtain ⟨vs, q, r⟩ := view h
    exact ⟨vs, q, by rw [r.length]; exact Nat.le_refl _⟩
theorem src_tup {K : PySem.W.Frag} {a : Addr} {ds : List D} : Src K cl (fun N H => Rep K cl N H (.ref a) (.tup ds)) (Itt K a) ds := by
  have view : ∀ {N H}, Rep K cl N H (.ref a) (.tup ds) → ∃ vs, SqT K H a vs ∧ RepL K cl N H vs ds := fun {N H} h => by
    cases h with
    | tup e r => exact ⟨_, e.seq, r⟩
  refine ⟨fun h k => h.mono k, fun i h hi => ?_, fun {B H m S} i {y H'} o h hy => ?_, fun h => ?_⟩
  · obtain ⟨vs, q, r⟩ := view h
    obtain ⟨v, e, _⟩ := r.got (List.getElem?_eq_getElem hi)
    exact ⟨vs, v, q, e⟩
  · obtain ⟨vs, q, r⟩ := view h
    obtain ⟨rfl, hy⟩ := hy
    obtain ⟨d, h1, h2⟩ := r.get (hy vs q)
    exact ⟨d, fun _ => h1, Step.refl, o, h2⟩
  · obtain ⟨vs, q, r⟩ := view h
    exact ⟨vs, q, by rw [r.length]; exact Nat.le_refl _⟩
theorem src_str {K : PySem.W.Frag} {s : Str} : Src K cl (fun _ _ => True) (Its s) (signsD s) := by
  refine ⟨fun _ _ => trivial, fun i _ hi => ?_, fun {B H m S} i {y H'} o _ hy => ?_, fun _ => ?_⟩
  · show i < s.cps.size
    simpa [signsD] using hi
  · obtain ⟨rfl, c, hc, rfl⟩ := hy
    refine ⟨.str ⟨#[c]⟩, fun _ => ?_, Step.refl, o, .str _⟩
    rw [← Array.getElem?_toList] at hc
    simp only [signsD, List.getElem?_map, hc]
    rfl
  · show s.cps.size ≤ (signsD s).length
    simp [signsD]
theorem pi_v {tg e : Expr} {c : CE} (he : PE X e (tM X.K cl W c)) : PI X tg e (tMI X.K cl W (ciV c)) :=
  PI.imp (PI.or (pi_list he) (PI.or (pi_tup he) (pi_str he))) fun σ H R h => by
  obtain ⟨B, m, S, ρ, o, e, fin⟩ := h
  unfold ciV at fin
  cases hc : c ρ S with
  | bad => rw [hc] at fin; exact fin.elim
  | exc e' S1 => rw [hc] at fin; exact .inl ⟨B, m, S, ρ, o, e, by rw [hc]; exact fin⟩
  | ok x S1 =>
    rw [hc] at fin
    cases x with
    | ref i => exact fin.elim
    | val d =>
      cases d with
      | lst ds =>
        refine .inl ⟨B, m, S, ρ, o, e, ?_⟩
        rw [hc]
        intro v H1 m1 s1 o1 r1
        obtain ⟨a, vs, rfl, q, rl⟩ := asL_ok (x := .val (.lst ds)) o1 r1 rfl
        exact ⟨a, rfl, ⟨vs, q⟩, fin _ _ H1 m1 s1 o1 r1 (src_lst (.inl rfl))⟩
      | ro ds =>
        refine .inl ⟨B, m, S, ρ, o, e, ?_⟩
        rw [hc]
        intro v H1 m1 s1 o1 r1
        obtain ⟨a, vs, rfl, q, rl⟩ := asL_ok (x := .val (.ro ds)) o1 r1 rfl
        exact ⟨a, rfl, ⟨vs, q⟩, fin _ _ H1 m1 s1 o1 r1 (src_lst (.inr rfl))⟩
      | tup ds =>
        refine .inr (.inl ⟨B, m, S, ρ, o, e, ?_⟩)
        rw [hc]
        intro v H1 m1 s1 o1 r1
        obtain ⟨a, vs, rfl, q, rl⟩ := asT_ok (x := .val (.tup ds)) r1 rfl
        exact ⟨a, rfl, ⟨vs, q⟩, fin _ _ H1 m1 s1 o1 r1 src_tup⟩
      | str s =>
        refine .inr (.inr ⟨B, m, S, ρ, o, e, ?_⟩)
        rw [hc]
        intro v H1 m1 s1 o1 r1
        cases r1
        exact ⟨s, rfl, fin _ _ H1 m1 s1 o1 trivial src_str⟩
      | _ => exact fin.elim
theorem src_enum {K : PySem.W.Frag} {a : Addr} {ds : List D} {d : D} (hd : d = .lst ds ∨ d = .ro ds) : Src K cl (fun N H => Rep K cl N H (.ref a) d) (Ite K a) (enumD 0 ds) := by
  have view : ∀ {N H}, Rep K cl N H (.ref a) d → ∃ vs, SqL K H a vs ∧ RepL K cl N H vs ds := fun {N H} h => by
    rcases hd with rfl | rfl
    · cases h with
      | lst e n r => exact ⟨_, .of e, r⟩
    · cases h with
      | ro e r => exact ⟨_, e.seq, r⟩
  refine ⟨fun h k => h.mono k, fun i h hi => ?_, fun {B H m S} i {y H'} o h hy => ?_, fun h => ?_⟩
  · obtain ⟨vs, q, r⟩ := view h
    rw [enumD_len] at hi
    obtain ⟨v, e, _⟩ := r.got (List.getElem?_eq_getElem hi)
    exact ⟨vs, v, q, e⟩
  · obtain ⟨vs, q, r⟩ := view h
    obtain ⟨T, x, rfl, nT, rfl, hy⟩ := hy
    obtain ⟨d, h1, h2⟩ := r.get (hy vs q)
    refine ⟨.wt [.int (i : Nat), d], fun _ => ?_, Step.new nT, o.new nT, .wt (.inl upd_same) (o.fresh nT) (.cons (.int _) (.cons (h2.mono (Kp.new nT)) .nil))⟩
    have := enumD_get 0 ds i d h1
    rwa [Nat.zero_add] at this
  · obtain ⟨vs, q, r⟩ := view h
    exact ⟨vs, q, by rw [r.length, enumD_len]; exact Nat.le_refl _⟩
theorem pi_e {e : Expr} {c : CE} {p pos tpos : Pos} {elts : List Expr} {kk : Nat} (hm : X.mg "enumerate" = none) (he : PE X e (tM X.K cl W c)) (hg : Gl X "enumerate" := by rfl) (hs : starEach [e] X.env = (false, eval e X.env) :: starEach [] X.env := by rfl) :
    PI X (.Tuple elts kk tpos) (.Call (.Name "enumerate" p) [e] [] pos) (tMI X.K cl W (ciE c)) :=
  PI.imp (pi_enum hg hm (pa_cons he pa_nil hs) hs) fun σ H R h => by
  obtain ⟨B, m, S, ρ, o, e, fin⟩ := h
  refine ⟨B, m, S, ρ, o, e, ?_⟩
  unfold ciE at fin
  cases hc : c ρ S with
  | bad => rw [hc] at fin; exact fin
  | exc e' S1 => rw [hc] at fin; exact fin
  | ok x S1 =>
    rw [hc] at fin
    intro v H1 m1 s1 o1 r1
    cases x with
    | ref i => exact fin.elim
    | val d =>
      cases d with
      | lst ds =>
        obtain ⟨a, vs, rfl, q, rl⟩ := asL_ok (x := .val (.lst ds)) o1 r1 rfl
        exact ⟨a, vs, rfl, q, fin _ _ H1 m1 s1 o1 r1 (src_enum (.inl rfl))⟩
      | ro ds =>
        obtain ⟨a, vs, rfl, q, rl⟩ := asL_ok (x := .val (.ro ds)) o1 r1 rfl
        exact ⟨a, vs, rfl, q, fin _ _ H1 m1 s1 o1 r1 (src_enum (.inr rfl))⟩
      | _ => exact fin.elim
end
end T3
namespace T3
open PySem PySem.Spec PyProof.Rows L2

/-! ### comprehensions -/
abbrev W0 : WX := fun _ _ _ _ => False
noncomputable def wipeR (ρ : Slots) : List Nat → Slots
  | [] => ρ
  | v :: vs => (wipeR ρ vs).set v none
/-- one item: what it gives, the store behind; none: not served -/
abbrev Elm := D → Store → Option (Option D × Store)
noncomputable def lcGo (f : Elm) : List D → Store → Option (List D × Store)
  | [], S => some ([], S)
  | d :: r, S => match f d S with
    | some (some y, S') => (match lcGo f r S' with
      | some (ys, S2) => some (y :: ys, S2)
      | none => none)
    | some (none, S') => lcGo f r S'
    | none => none
noncomputable def elm (t : CT) (ct ce : CE) (ρ : Slots) : Elm := fun d S => match t (.val d) ρ S with
  | some (ρ', S') => (match ct ρ' S' with
    | .ok (.val (.bl true)) S2 => (match ce ρ' S2 with
      | .ok (.val y) S3 => some (some y, S3)
      | _ => none)
    | .ok (.val (.bl false)) S2 => some (none, S2)
    | _ => none)
  | none => none
noncomputable def cYes : CE := cB true
noncomputable def cLc (fr : Bool) (vs : List Nat) (ci : CI) (t : CT) (ct ce : CE) : CE := fun ρ S => match ci ρ S with
  | .ok xs S1 => (match lcGo (elm t ct ce (wipeR ρ vs)) xs S1 with
    | some (ds, S2) => if szOk ds.length then mkL fr ds S2 else .bad
    | none => .bad)
  | .exc e S1 => .exc e S1
  | .bad => .bad
/-- a block's target: just its own names -/
noncomputable def TgC (K : PySem.W.Frag) (cl : ClT) (vs : List Nat) (g : TG) (t : CT) : Prop :=
  ∀ {B : Addr → Prop} {H : Hp} {m : List Addr} {S S' : Store} {v : V} {x : A} {σ : L2.St} {ρ ρ' : Slots} {Q : L2.St → Hp → Prop}, Ok K cl B H m S → EnvOk K cl (NN B m) H m σ ρ → RepA K cl (NN B m) H m v x → t x ρ S = some (ρ', S') →
    (∀ σ', wipe σ' vs = wipe σ vs → S' = S → EnvOk K cl (NN B m) H m σ' ρ' → Q σ' H) → g v σ H Q
noncomputable def TgsC (K : PySem.W.Frag) (cl : ClT) (vs : List Nat) (g : TGs) (t : List D → Slots → Store → Option (Slots × Store)) : Prop :=
  ∀ {B : Addr → Prop} {H : Hp} {m : List Addr} {S S' : Store} {ws : List V} {ds : List D} {σ : L2.St} {ρ ρ' : Slots} {Q : L2.St → Hp → Prop}, Ok K cl B H m S → EnvOk K cl (NN B m) H m σ ρ → RepL K cl (NN B m) H ws ds → t ds ρ S = some (ρ', S') →
    (∀ σ', wipe σ' vs = wipe σ vs → S' = S → EnvOk K cl (NN B m) H m σ' ρ' → Q σ' H) → g ws σ H Q
theorem wipe_get {σ : L2.St} : ∀ {vs : List Nat} {j : Nat}, j ∉ vs → (wipe σ vs)[j]? = σ[j]?
  | [], _, _ => rfl
  | v :: vs, j, h => by
    have h1 : v ≠ j := fun z => h (by rw [z]; exact List.mem_cons_self)
    show ((wipe σ vs).set v none)[j]? = _
    rw [List.getElem?_set_ne h1]
    exact wipe_get fun z => h (List.mem_cons_of_mem _ z)
theorem wipe_in {σ : L2.St} : ∀ {vs : List Nat} {j : Nat}, j ∈ vs → j < σ.length → (wipe σ vs)[j]? = some none
  | v :: vs, j, h, hl => by
    show ((wipe σ vs).set v none)[j]? = _
    by_cases e : v = j
    · subst e
      rw [List.getElem?_set_self (by rw [wipe_length]; exact hl)]
    · rw [List.getElem?_set_ne e]
      exact wipe_in ((List.mem_cons.mp h).resolve_left fun z => e z.symm) hl
theorem wipe_eq {σ τ : L2.St} {vs : List Nat} (hl : σ.length = τ.length) (h : ∀ j, j ∉ vs → σ[j]? = τ[j]?) : wipe σ vs = wipe τ vs := by
  apply List.ext_getElem?
  intro j
  by_cases hj : j ∈ vs
  · by_cases hlt : j < σ.length
    · rw [wipe_in hj hlt, wipe_in hj (by omega)]
    · rw [List.getElem?_eq_none (by rw [wipe_length]; omega), List.getElem?_eq_none (by rw [wipe_length]; omega)]
  · rw [wipe_get hj, wipe_get hj]
    exact h j hj
theorem wipe_set {σ : L2.St} {vs : List Nat} {i : Nat} {x : Option V} (hi : i ∈ vs) : wipe (σ.set i x) vs = wipe σ vs := wipe_eq (by simp) fun j hj => by
  have h1 : i ≠ j := fun z => hj (by rw [← z]; exact hi)
  rw [List.getElem?_set_ne h1]
theorem wipe_wipe {σ : L2.St} {vs us : List Nat} (h : ∀ i ∈ us, i ∈ vs) : wipe (wipe σ us) vs = wipe σ vs := wipe_eq (wipe_length _ _) fun j hj => wipe_get fun z => hj (h j z)
section
variable {X : Cx} {cl : ClT} {W : WX} {K : PySem.W.Frag}
theorem tgc_name {vs : List Nat} (i : Nat) (hi : i ∈ vs) : TgC K cl vs (gName i) (tgName i) := by
  intro B H m S S' v x σ ρ ρ' Q o e r h k
  cases h
  exact k _ (wipe_set hi) rfl (e.set i r)
theorem tgsc_nil {vs : List Nat} : TgsC K cl vs gNil tgNil := by
  intro B H m S S' ws ds σ ρ ρ' Q o e r h k
  unfold tgNil at h
  split at h <;> cases h
  rename_i hd
  have : ds = [] := List.isEmpty_iff.mp hd
  subst this
  cases r
  exact ⟨rfl, k σ rfl rfl e⟩
theorem tgsc_cons {vs : List Nat} {g : TG} {gs : TGs} {t : CT} {u : List D → Slots → Store → Option (Slots × Store)} (hg : TgC K cl vs g t) (hs : TgsC K cl vs gs u) : TgsC K cl vs (gCons g gs) (tgCons t u) := by
  intro B H m S S' ws ds σ ρ ρ' Q o e r h k
  unfold tgCons at h
  cases r with
  | nil => cases h
  | @cons v ws d ds h1 r =>
    dsimp only at h
    split at h
    · rename_i ρ1 S1 h2
      refine ⟨v, ws, rfl, hg (x := .val d) o e h1 h2 fun σ1 w1 s1 e1 => ?_⟩
      subst s1
      exact hs o e1 r h fun σ' w2 s2 e' => k σ' (w2.trans w1) s2 e'
    · cases h
theorem tgc_tup {vs : List Nat} {n : Nat} {gs : TGs} {u : List D → Slots → Store → Option (Slots × Store)} (hs : TgsC K cl vs gs u) : TgC K cl vs (gTup K n gs) (tgTup n u) := by
  intro B H m S S' v x σ ρ ρ' Q o e r h k
  unfold tgTup at h
  split at h
  · rename_i ds
    split at h
    · rename_i hl
      obtain ⟨a, ws, rfl, q, rl⟩ := asT_ok (x := .val (.tup ds)) r rfl
      exact ⟨a, ws, rfl, q, rl.length.trans hl, hs o e rl h k⟩
    · cases h
  · rename_i ds
    split at h
    · rename_i hl
      cases r with
      | wt q n rl => exact ⟨_, _, rfl, .inl q, rl.length.trans hl, hs o e rl h k⟩
    · cases h
  · cases h
theorem EnvOk.wipe {N : Addr → Prop} {H : Hp} {m : List Addr} {σ : L2.St} {ρ : Slots} (e : EnvOk K cl N H m σ ρ) : ∀ vs : List Nat, EnvOk K cl N H m (L2.wipe σ vs) (wipeR ρ vs)
  | [] => e
  | v :: vs => by
    have ih := EnvOk.wipe e vs
    refine ⟨by show ((wipeR ρ vs).set v none).length = ((L2.wipe σ vs).set v none).length; simp [ih.len], fun j x hj => ?_⟩
    have hj : ((wipeR ρ vs).set v none)[j]? = some (some x) := hj
    by_cases hv : v = j
    · subst hv
      by_cases hl : v < (wipeR ρ vs).length
      · rw [List.getElem?_set_self hl] at hj; cases hj
      · rw [List.getElem?_eq_none (by simpa using hl)] at hj; cases hj
    · rw [List.getElem?_set_ne hv] at hj
      obtain ⟨w, h1, h2⟩ := ih.get j x hj
      exact ⟨w, by show ((L2.wipe σ vs).set v none)[j]? = _; rw [List.getElem?_set_ne hv]; exact h1, h2⟩
/-- the list under construction as one more thing that others may not count on -/
noncomputable def BD (B : Addr → Prop) (p : Addr) : Addr → Prop := fun a => B a ∨ a = p
theorem Kp.born {B : Addr → Prop} {H : Hp} {m : List Addr} {p : Addr} {u : HO} (hp : H p = none) : Kp (NN B m) (NN (BD B p) m) H (upd H p u) := ⟨fun a x e _ _ => by rw [upd_ne (ne_of_none e hp)]; exact e, fun a z => by
  rcases z with (z | z) | z
  · exact .inl (.inl z)
  · rw [z]; exact .inr hp
  · exact .inl (.inr z)⟩
theorem Ok.born {B : Addr → Prop} {H : Hp} {m : List Addr} {S : Store} {p : Addr} {u : HO} (o : Ok K cl B H m S) (hp : H p = none) : Ok K cl (BD B p) (upd H p u) m S := by
  refine ⟨fun a z => ?_, o.len, o.nd, fun i a x hi hx => ?_, tabs_upd (.inl hp) o.tabs⟩
  · rcases z with z | z
    · exact ⟨(Step.new hp (m := m)).some (o.foreign a z).1, (o.foreign a z).2⟩
    · rw [z]; exact ⟨by rw [upd_same]; exact fun q => by (cases q), fun z => o.may (.inr z) hp⟩
  · have r := o.obj i a x hi hx
    exact r.mono (Kp.born hp) ⟨[], by simp⟩ (upd_ne (fun z => r.there (z ▸ hp)))
/-- it grows -/
theorem Ok.grow {B : Addr → Prop} {H : Hp} {m : List Addr} {S : Store} {p : Addr} {u : HO} (o : Ok K cl (BD B p) H m S) {ys : List V} (hL : H p = some (.lst ys)) : Ok K cl (BD B p) (upd H p u) m S := by
  have hpm : p ∉ m := (o.foreign p (.inr rfl)).2
  refine ⟨fun a z => ⟨?_, (o.foreign a z).2⟩, o.len, o.nd, fun i a x hi hx => ?_, tabs_upd (.inr ⟨_, hL, nt_of (.inl ⟨_, rfl⟩)⟩) o.tabs⟩
  · by_cases e : a = p
    · rw [e, upd_same]; exact fun q => by cases q
    · rw [upd_ne e]; exact (o.foreign a z).1
  · have r := o.obj i a x hi hx
    have ha : a ≠ p := fun z => hpm (z ▸ List.mem_of_getElem? hi)
    exact r.mono (kp_at (.inl (.inr rfl)) fun b hb => upd_ne hb) ⟨[], by simp⟩ (upd_ne ha)
theorem Ok.less {B B' : Addr → Prop} {H : Hp} {m : List Addr} {S : Store} (o : Ok K cl B' H m S) (h : ∀ a, B a → B' a) : Ok K cl B H m S := by
  have hw : ∀ a, NN B m a → NN B' m a := fun a z => z.imp (h a) id
  refine ⟨fun a z => o.foreign a (h a z), o.len, o.nd, fun i a x hi hx => ?_, o.tabs⟩
  have r := o.obj i a x hi hx
  cases x with
  | lst ds => obtain ⟨xs, e, r⟩ := r; exact ⟨xs, e, r.weak hw⟩
  | dic ks ds => obtain ⟨xs, e, l, r⟩ := r; exact ⟨xs, e, l, r.weak hw⟩
  | ins c ns zs => obtain ⟨dx, xs, e, l, r⟩ := r; exact ⟨dx, xs, e, l, r.weak hw⟩
/-- the made list at its end -/
theorem born_end {B : Addr → Prop} {σ : L2.St} {H1 H : Hp} {m1 m : List Addr} {S : Store} {fr : Bool} {ds : List D} {xs : List V} {p : Addr} {Q : VK} (hp : H1 p = none) (st : Step H1 m1 H m) (o : Ok K cl (BD B p) H m S) (e : H p = some (.lst xs)) (r : RepL K cl (NN (BD B p) m) H xs ds)
    (hB : ¬ B p) (h : Fin K cl B σ H1 m1 W (mkL fr ds S) Q) : Q (.ref p) H := by
  have hpm : p ∉ m := (o.foreign p (.inr rfl)).2
  have hw : ∀ a, NN B m a → NN (BD B p) m a := fun a z => z.imp .inl id
  have o' : Ok K cl B H m S := o.less fun a z => .inl z
  have hn : ¬ NN B m p := fun z => z.elim hB hpm
  cases fr with
  | true => exact h _ _ _ st o' (.lst e hn (r.weak hw))
  | false =>
    obtain ⟨q, rfl, hq⟩ := st.ext
    have hw2 : ∀ a, NN B (m1 ++ q ++ [p]) a → NN (BD B p) (m1 ++ q) a := fun a z => by
      rcases z with z | z
      · exact .inl (.inl z)
      · rcases List.mem_append.mp z with z | z
        · exact .inr z
        · exact .inl (.inr (List.mem_singleton.mp z))
    refine h _ H (m1 ++ q ++ [p]) ⟨⟨q ++ [p], by simp, fun a ha => ?_⟩, st.keep, st.stay⟩ ?_ ⟨p, by rw [← o.len, List.getElem?_append_right (Nat.le_refl _)]; simp, rfl⟩
    · rcases List.mem_append.mp ha with ha | ha
      · exact hq a ha
      · rw [List.mem_singleton.mp ha]; exact hp
    · refine ⟨fun a z => ⟨(o'.foreign a z).1, fun y => ?_⟩, by have := o.len; simp at this ⊢; omega, ?_, fun i a x hi hx => ?_, o.tabs⟩
      · rcases List.mem_append.mp y with y | y
        · exact (o'.foreign a z).2 y
        · rw [List.mem_singleton.mp y] at z; exact hB z
      · rw [List.nodup_append]
        exact ⟨o.nd, by simp, fun a ha b hb => by rw [List.mem_singleton.mp hb]; exact fun e => hpm (e ▸ ha)⟩
      · by_cases hl : i < (m1 ++ q).length
        · rw [List.getElem?_append_left hl] at hi
          rw [List.getElem?_append_left (by rw [← o.len]; exact hl)] at hx
          have r2 := o.obj i a x hi hx
          cases x with
          | lst ds => obtain ⟨xs, e, r⟩ := r2; exact ⟨xs, e, r.weak hw2⟩
          | dic ks ds => obtain ⟨xs, e, l, r⟩ := r2; exact ⟨xs, e, l, r.weak hw2⟩
          | ins c ns zs => obtain ⟨dx, xs, e, l, r⟩ := r2; exact ⟨dx, xs, e, l, RepAs.mono ⟨fun _ _ e _ _ => e, fun _ z => .inl z⟩ ⟨[p], rfl⟩ (r.weak hw2)⟩
        · have hi' := (List.getElem?_eq_some_iff.mp hi).1
          have ei : i = (m1 ++ q).length := by simp at hi' hl ⊢; omega
          subst ei
          rw [List.getElem?_append_right (Nat.le_refl _)] at hi
          rw [o.len, List.getElem?_append_right (Nat.le_refl _)] at hx
          simp at hi hx
          subst hi hx
          exact ⟨xs, e, r.weak hw2⟩
theorem lcGo_cons {f : Elm} {d : D} {r : List D} {S S2 : Store} {ys : List D} (h : lcGo f (d :: r) S = some (ys, S2)) : (∃ y S' zs, f d S = some (some y, S') ∧ lcGo f r S' = some (zs, S2) ∧ ys = y :: zs) ∨ ∃ S', f d S = some (none, S') ∧ lcGo f r S' = some (ys, S2) := by
  unfold lcGo at h
  split at h
  · rename_i y S' h1
    split at h
    · rename_i zs S3 h2
      cases h
      exact .inl ⟨y, S', zs, h1, h2, rfl⟩
    · cases h
  · rename_i S' h1
    exact .inr ⟨S', h1, h⟩
  · cases h
theorem tLc_ok {fr : Bool} {vs : List Nat} {ci : CI} {g : TG} {t : CT} {ct ce : CE} (hg : TgC X.K cl vs g t) {tt : TT} (htt : ∀ σ H Q, tMT X.K cl W0 ct σ H Q → tt σ H Q) {σ : L2.St} {H : Hp} {Q : VK} (h : tM X.K cl W (cLc fr vs ci t ct ce) σ H Q) :
    tLc (tMI X.K cl W ci) g tt (tM X.K cl W0 ce) vs σ H Q := by
  obtain ⟨B, m, S, ρ, o, e, fin⟩ := h
  refine ⟨B, m, S, ρ, o, e, ?_⟩
  unfold cLc at fin
  cases hi : ci ρ S with
  | bad => rw [hi] at fin; exact fin
  | exc e' S' => rw [hi] at fin; exact fin
  | ok xs S1 =>
    rw [hi] at fin
    dsimp only at fin
    split at fin
    rotate_left
    · exact fin.elim
    rename_i ds S2 hgo
    split at fin
    rotate_left
    · exact fin.elim
    rename_i hz
    intro J live H1 m1 s1 o1 l1 src D hD
    have fin1 := Fin.step s1 fin
    have hB : ¬ B D := fun z => (o1.foreign D z).1 hD
    have e1 := s1.env o e
    have e1' : EnvOk X.K cl (NN (BD B D) m1) (upd H1 D (.lst [])) m1 σ ρ := e1.mono (Kp.born hD) ⟨[], by simp⟩
    refine ⟨fun i n H => n = xs.length - i ∧ i ≤ xs.length ∧ ∃ m S acc av rest, Step H1 m1 H m ∧ Ok X.K cl (BD B D) H m S ∧ EnvOk X.K cl (NN (BD B D) m) H m σ ρ ∧ live (NN (BD B D) m) H ∧ H D = some (.lst av) ∧ RepL X.K cl (NN (BD B D) m) H av acc ∧
        lcGo (elm t ct ce (wipeR ρ vs)) (xs.drop i) S = some (rest, S2) ∧ ds = acc ++ rest,
      ⟨xs.length, by simp, Nat.zero_le _, m1, S1, [], [], ds, Step.new hD, o1.born hD, e1', src.keep l1 (Kp.born hD), upd_same, .nil, hgo, rfl⟩, ?_⟩
    rintro i n H2 ⟨rfl, hle, m2, S3, acc, av, rest, st2, o2, e2, l2, hd2, ra2, go2, eds⟩
    by_cases hlt : i < xs.length
    · refine .inr ⟨src.go i l2 hlt, fun H => i + 1 ≤ xs.length ∧ ∃ m S acc av rest, Step H1 m1 H m ∧ Ok X.K cl (BD B D) H m S ∧ EnvOk X.K cl (NN (BD B D) m) H m σ ρ ∧ live (NN (BD B D) m) H ∧ H D = some (.lst av) ∧ RepL X.K cl (NN (BD B D) m) H av acc ∧
          lcGo (elm t ct ce (wipeR ρ vs)) (xs.drop (i + 1)) S = some (rest, S2) ∧ ds = acc ++ rest, fun H' hn => ⟨xs.length - (i + 1), by omega, rfl, hn⟩, fun y H3 hy => ?_⟩
      obtain ⟨d, hd, s3, o3, r3⟩ := src.yld i o2 l2 hy
      have hd := hd hlt
      rw [List.drop_eq_getElem_cons hlt] at go2
      rw [List.getElem?_eq_getElem hlt] at hd
      cases hd
      have l3 := src.step o2 l2 s3
      have e3 := s3.env o2 e2
      have kp3 : Kp (NN (BD B D) m2) (NN (BD B D) m2) H2 H3 := s3.kp fun a h => (o2.foreign a h).2
      have ra3 := ra2.mono kp3
      have hDm : D ∉ m2 := (o2.foreign D (.inr rfl)).2
      have hd3 : H3 D = some (.lst av) := s3.kept D _ hd2 hDm
      have st3 := st2.trans s3
      have he : ∃ ρ4, t (.val xs[i]) (wipeR ρ vs) S3 = some (ρ4, S3) ∧ ((∃ y S5 S6 zs, ct ρ4 S3 = .ok (.val (.bl true)) S5 ∧ ce ρ4 S5 = .ok (.val y) S6 ∧ lcGo (elm t ct ce (wipeR ρ vs)) (xs.drop (i + 1)) S6 = some (zs, S2) ∧ rest = y :: zs) ∨
          ∃ S5, ct ρ4 S3 = .ok (.val (.bl false)) S5 ∧ lcGo (elm t ct ce (wipeR ρ vs)) (xs.drop (i + 1)) S5 = some (rest, S2)) ∨ ∃ ρ4 S4, t (.val xs[i]) (wipeR ρ vs) S3 = some (ρ4, S4) ∧ S4 ≠ S3 := by
        rcases lcGo_cons go2 with ⟨y, S', zs, h1, h2, h3⟩ | ⟨S', h1, h2⟩
        all_goals
          unfold elm at h1
          cases ht : t (.val xs[i]) (wipeR ρ vs) S3 with
          | none => rw [ht] at h1; cases h1
          | some q =>
            obtain ⟨ρ4, S4⟩ := q
            rw [ht] at h1
            dsimp only at h1
            by_cases hS : S4 = S3
            · subst hS
              refine ⟨ρ4, .inl ⟨rfl, ?_⟩⟩
              cases hc : ct ρ4 S4 with
              | bad => rw [hc] at h1; cases h1
              | exc _ _ => rw [hc] at h1; cases h1
              | ok x S5 =>
                rw [hc] at h1
                cases x with
                | ref _ => cases h1
                | val z =>
                  cases z with
                  | bl b =>
                    cases b with
                    | true =>
                      dsimp only at h1
                      cases hv : ce ρ4 S5 with
                      | bad => rw [hv] at h1; cases h1
                      | exc _ _ => rw [hv] at h1; cases h1
                      | ok w S6 =>
                        rw [hv] at h1
                        cases w with
                        | ref _ => cases h1
                        | val w => first | (cases h1; exact .inl ⟨_, S5, _, zs, rfl, hv, h2, h3⟩) | cases h1
                    | false => first | (cases h1; exact .inr ⟨_, rfl, h2⟩) | cases h1
                  | _ => cases h1
            · exact ⟨ρ4, .inr ⟨ρ4, S4, rfl, hS⟩⟩
      obtain ⟨ρ4, he⟩ := he
      rcases he with ⟨ht, he⟩ | ⟨ρ5, S4, ht, hne⟩
      rotate_left
      · exact hg (x := .val xs[i]) o3 (e3.wipe vs) r3 ht fun σ' _ q _ => absurd q hne
      refine hg (x := .val xs[i]) o3 (e3.wipe vs) r3 ht fun σ4 w4 _ e4 => ⟨w4.trans (wipe_wipe fun i h => h), ?_⟩
      -- the test
      rcases he with ⟨y, S5, S6, zs, hc, hv, hgo', hr⟩ | ⟨S5, hc, hgo'⟩
      · refine htt _ _ _ ⟨BD B D, m2, S3, ρ4, o3, e4, ?_⟩
        rw [hc]
        intro H5 m5 s5 o5
        refine iteT ⟨BD B D, m5, S5, ρ4, o5, s5.env o3 e4, ?_⟩
        rw [hv]
        intro u H6 m6 s6 o6 r6
        have s56 := s5.trans s6
        have hD6 : D ∉ m6 := (o6.foreign D (.inr rfl)).2
        have hd6 : H6 D = some (.lst av) := s56.kept D _ hd3 hDm
        have kp6 : Kp (NN (BD B D) m2) (NN (BD B D) m6) H3 H6 := s56.kp fun a h => (o3.foreign a h).2
        have ex6 : ∃ r, m6 = m2 ++ r := let ⟨r, h, _⟩ := s56.ext; ⟨r, h⟩
        have ra6 := ra3.mono kp6
        have kg : Kp (NN (BD B D) m6) (NN (BD B D) m6) H6 (upd H6 D (.lst (av ++ [u]))) := kp_at (.inl (.inr rfl)) fun b hb => upd_ne hb
        have hlen : av.length < sizeLine := by
          rw [ra6.length]
          have := of_decide_eq_true hz
          rw [eds, List.length_append, hr, List.length_cons] at this
          exact Nat.lt_of_lt_of_le (by omega : acc.length < 16000000) (by decide)
        refine ⟨av, hd6, hlen, hlt, m6, S6, acc ++ [y], av ++ [u], zs, ?_, o6.grow hd6, (e3.mono kp6 ex6).mono kg ⟨[], by simp⟩, src.keep (src.keep l3 kp6) kg, upd_same, (ra6.append (.cons r6 .nil)).mono kg, hgo', by rw [eds, hr]; simp⟩
        have st6 := st3.trans s56
        refine ⟨st6.ext, fun a z hz hn nt => ?_, fun a hn => ?_⟩
        · rw [upd_ne fun q => by rw [q, hD] at hz; cases hz]; exact st6.keep a z hz hn nt
        · by_cases q : a = D
          · rw [q, upd_same]; exact fun z => by cases z
          · rw [upd_ne q]; exact st6.stay a hn
      · refine htt _ _ _ ⟨BD B D, m2, S3, ρ4, o3, e4, ?_⟩
        rw [hc]
        intro H5 m5 s5 o5
        have kp5 : Kp (NN (BD B D) m2) (NN (BD B D) m5) H3 H5 := s5.kp fun a h => (o3.foreign a h).2
        have ex5 : ∃ r, m5 = m2 ++ r := let ⟨r, h, _⟩ := s5.ext; ⟨r, h⟩
        exact iteF ⟨hlt, m5, S5, acc, av, rest, st3.trans s5, o5, e3.mono kp5 ex5, src.keep l3 kp5, s5.kept D _ hd3 hDm, ra3.mono kp5, hgo', eds⟩
    · have hi : i = xs.length := by omega
      subst hi
      rw [List.drop_length] at go2
      cases go2
      rw [List.append_nil] at eds
      subst eds
      exact .inl ⟨src.stop l2, born_end hD st2 o2 hd2 ra2 hB fin1⟩
end
end T3
namespace T3
open PySem PySem.Spec PyProof.Rows L2
section
variable {X : Cx} {cl : ClT} {W : WX}
theorem pm_lc (fr : Bool) {elt tg iter : Expr} {ifs : List Expr} {scope : Scope} {own : List (Str × Nat)} {pos : Pos} {ci : CI} {g : TG} {t : CT} {ct ce : CE} {tt : TT} (hc : X.calm = true) (hN : X.N.Nodup) (hi : PI X tg iter (tMI X.K cl W ci)) (ok : BlkOk X.N X.env.scope scope own)
    (hg : ∀ (s : Shared) (H : Hp) (C : Addr) (cl' : List (Str × Addr)) (fp : List Addr), PG (X.blk s H scope (compEnvC scope cl' C X.env) fp) tg g) (hgo : TgC X.K cl (own.map (·.2)) g t)
    (ht : ∀ (s : Shared) (H : Hp) (C : Addr) (cl' : List (Str × Addr)) (fp : List Addr), PTs (X.blk s H scope (compEnvC scope cl' C X.env) fp) ifs tt) (hto : ∀ σ H Q, tMT X.K cl W0 ct σ H Q → tt σ H Q)
    (he : ∀ (s : Shared) (H : Hp) (C : Addr) (cl' : List (Str × Addr)) (fp : List Addr), PE (X.blk s H scope (compEnvC scope cl' C X.env) fp) elt (tM X.K cl W0 ce)) (hs : ∀ x, foldedSetIterable iter X.env x = pure x := by intro _; rfl) :
    PE X (.ListComp elt [⟨tg, iter, ifs, 0⟩] scope pos) (tM X.K cl W (cLc fr (own.map (·.2)) ci t ct ce)) := PE.imp (pe_lc hc hN hi ok hg ht he hs) fun _ _ _ h => tLc_ok hgo hto h
theorem tYes_ok {K : PySem.W.Frag} {σ : L2.St} {H : Hp} {Q : Bool → Hp → Prop} (h : tMT K cl W0 cYes σ H Q) : tYes σ H Q := by
  obtain ⟨B, m, S, ρ, o, e, fin⟩ := h
  exact fin H m Step.refl o
theorem pm_setLc (fr : Bool) (i : Nat) {y : Str} {py : Pos} {elt tg iter : Expr} {ifs : List Expr} {scope : Scope} {own : List (Str × Nat)} {pos spos : Pos} {ci : CI} {g : TG} {t : CT} {ct ce : CE} {tt : TT} (hc : X.calm = true) (hN : X.N.Nodup)
    (hsw : swapsWith (.ListComp elt [⟨tg, iter, ifs, 0⟩] scope pos) (some (.Name y py)) spos.line X.env = pure true) (hi : PI X tg iter (tMI X.K cl W ci)) (ok : BlkOk X.N X.env.scope scope own)
    (hg : ∀ (s : Shared) (H : Hp) (C : Addr) (cl' : List (Str × Addr)) (fp : List Addr), PG (X.blk s H scope (compEnvC scope cl' C X.env) fp) tg g) (hgo : TgC X.K cl (own.map (·.2)) g t)
    (ht : ∀ (s : Shared) (H : Hp) (C : Addr) (cl' : List (Str × Addr)) (fp : List Addr), PTs (X.blk s H scope (compEnvC scope cl' C X.env) fp) ifs tt) (hto : ∀ σ H Q, tMT X.K cl W0 ct σ H Q → tt σ H Q)
    (he : ∀ (s : Shared) (H : Hp) (C : Addr) (cl' : List (Str × Addr)) (fp : List Addr), PE (X.blk s H scope (compEnvC scope cl' C X.env) fp) elt (tM X.K cl W0 ce)) (hs : ∀ x, foldedSetIterable iter X.env x = pure x := by intro _; rfl)
    (hy : X.N[i]? = some y := by rfl) (hyl : X.env.scope.names.lookup y = some .local := by rfl) :
    PS X (.Assign [.Name y py] (.ListComp elt [⟨tg, iter, ifs, 0⟩] scope pos) spos) (tMS X.K cl W (sAsg (tgName i) (cLc fr (own.map (·.2)) ci t ct ce))) :=
  PS.imp (ps_setLc hc hN hy hyl hsw hi ok hg ht he hs) fun E σ H h => by
  obtain ⟨B, m, S, ρ, o, e, fin⟩ := h
  refine tLc_ok hgo hto ⟨B, m, S, ρ, o, e, FinS.bind o e fin fun x S1 v H1 m1 s1 o1 e1 r1 f1 => ?_⟩
  exact f1 _ H1 m1 Step.refl o1 (e1.set i r1)

/-! ### built-ins -/
noncomputable def cB1 (f : List A → Store → Res) (c : CA) : CE := fun ρ S => (c ρ S).bind f
theorem tCB_ok {r : List V → Hp → VK → Prop} {f : List A → Store → Res} {c : CA} (hf : CaOk X.K cl r f) {σ : L2.St} {H : Hp} {Q : VK} (h : tM X.K cl W (cB1 f c) σ H Q) : tCB r (tML X.K cl W c) σ H Q := by
  obtain ⟨B, m, S, ρ, o, e, fin⟩ := h
  exact ⟨B, m, S, ρ, o, e, FinL.bind fin fun xs S1 vs H1 m1 s1 o1 r1 f1 => hf o1 r1 f1⟩
theorem pm_b {id nm : String} {x : Str} {r : List V → Hp → VK → Prop} {f : List A → Store → Res} {c : CA} {e : Expr} {es : List Expr} {p pos : Pos} (hr : CallR X (.builtin id) r) (hf : CaOk X.K cl r f) (hm : X.mg x = none) (hv : bootBuiltins x = some (.builtin id)) (ha : PA X (e :: es) (tML X.K cl W c)) (hg : Gl X x := by rfl)
    (hn : x ≠ "__name__" := by decide) (hdb : (x == ("__debug__" : Str)) = false := by decide) (he : starEach (e :: es) X.env = (false, eval e X.env) :: starEach es X.env := by rfl) (hpl : (backTo pos (starEach es X.env)).any (·.1) = false := by rfl) :
    PE X (.Call (.Name x p) (e :: es) [] pos) (tM X.K cl W (cB1 f c)) := by
  refine PE.imp (t := tCB r (tML X.K cl W c)) ?_ fun _ _ _ h => tCB_ok hf h
  first
    | exact pe_callB hr hg hm hv ha hn hdb he hpl
    | exact pe_callB hr hg hm hv ha
theorem pm_t {T : String} {x : Str} {r : List V → Hp → VK → Prop} {f : List A → Store → Res} {c : CA} {e : Expr} {es : List Expr} {p pos : Pos} (hr : CallR X (.type T) r) (hf : CaOk X.K cl r f) (hm : X.mg x = none) (hv : bootBuiltins x = some (.type T)) (ha : PA X (e :: es) (tML X.K cl W c)) (hg : Gl X x := by rfl)
    (hn : x ≠ "__name__" := by decide) (hdb : (x == ("__debug__" : Str)) = false := by decide) (he : starEach (e :: es) X.env = (false, eval e X.env) :: starEach es X.env := by rfl) (hpl : (backTo pos (starEach es X.env)).any (·.1) = false := by rfl) :
    PE X (.Call (.Name x p) (e :: es) [] pos) (tM X.K cl W (cB1 f c)) := by
  refine PE.imp (t := tCB r (tML X.K cl W c)) ?_ fun _ _ _ h => tCB_ok hf h
  first
    | exact pe_callTy hr hg hm hv ha hn hdb he hpl
    | exact pe_callTy hr hg hm hv ha
end
end T3
namespace T3
open PySem PySem.Spec PyProof.Rows L2
noncomputable def intsOf : List D → Option (List Int)
  | [] => some []
  | .int i :: r => (intsOf r).map (i :: ·)
  | _ => none
noncomputable def boolsOf : List D → Option (List Bool)
  | [] => some []
  | .bl i :: r => (boolsOf r).map (i :: ·)
  | _ => none
noncomputable def strsOf : List D → Option (List Str)
  | [] => some []
  | .str i :: r => (strsOf r).map (i :: ·)
  | _ => none
section
variable {K : PySem.W.Frag} {cl : ClT} {N : Addr → Prop} {B : Addr → Prop} {H : Hp} {m : List Addr} {S : Store}
theorem intsOf_ok : ∀ {vs : List V} {ds : List D} {is : List Int}, RepL K cl N H vs ds → intsOf ds = some is → vs = is.map V.int
  | _, _, _, .nil, h => by cases h; rfl
  | _, _, _, .cons h1 r, h => by
    cases h1 <;> simp only [intsOf, Option.map_eq_some_iff, reduceCtorEq] at h
    obtain ⟨a, h, rfl⟩ := h
    rw [intsOf_ok r h]
    rfl
theorem boolsOf_ok : ∀ {vs : List V} {ds : List D} {is : List Bool}, RepL K cl N H vs ds → boolsOf ds = some is → vs = is.map V.bl
  | _, _, _, .nil, h => by cases h; rfl
  | _, _, _, .cons h1 r, h => by
    cases h1 <;> simp only [boolsOf, Option.map_eq_some_iff, reduceCtorEq] at h
    obtain ⟨a, h, rfl⟩ := h
    rw [boolsOf_ok r h]
    rfl
theorem strsOf_ok : ∀ {vs : List V} {ds : List D} {is : List Str}, RepL K cl N H vs ds → strsOf ds = some is → vs = is.map V.str
  | _, _, _, .nil, h => by cases h; rfl
  | _, _, _, .cons h1 r, h => by
    cases h1 <;> simp only [strsOf, Option.map_eq_some_iff, reduceCtorEq] at h
    obtain ⟨a, h, rfl⟩ := h
    rw [strsOf_ok r h]
    rfl
theorem RepL.ints : ∀ is : List Int, RepL K cl N H (is.map V.int) (is.map D.int)
  | [] => .nil
  | i :: r => .cons (.int i) (RepL.ints r)
theorem RepL.strs : ∀ is : List Str, RepL K cl N H (is.map V.str) (is.map D.str)
  | [] => .nil
  | i :: r => .cons (.str i) (RepL.strs r)
end
noncomputable def fLen : List A → Store → Res
  | [.val (.str s)], S => if szOk s.length then .ok (.val (.int s.length)) S else .bad
  | [.val (.tup ds)], S => .ok (.val (.int ds.length)) S
  | [x], S => (match asL S x with
    | some ds => .ok (.val (.int ds.length)) S
    | none => .bad)
  | _, _ => .bad
noncomputable def fTuple : List A → Store → Res
  | [.val (.tup ds)], S => .ok (.val (.tup ds)) S
  | [x], S => (match asL S x with
    | some ds => .ok (.val (.tup ds)) S
    | none => .bad)
  | _, _ => .bad
noncomputable def fList (fr : Bool) : List A → Store → Res
  | [.val (.tup ds)], S => mkL fr ds S
  | [x], S => (match asL S x with
    | some ds => mkL fr ds S
    | none => .bad)
  | _, _ => .bad
noncomputable def fAll : List A → Store → Res
  | [x], S => (match asL S x with
    | some ds => (match boolsOf ds with
      | some bs => .ok (.val (.bl (bs.all id))) S
      | none => .bad)
    | none => .bad)
  | _, _ => .bad
noncomputable def fAny : List A → Store → Res
  | [x], S => (match asL S x with
    | some ds => (match boolsOf ds with
      | some bs => .ok (.val (.bl (bs.any id))) S
      | none => .bad)
    | none => .bad)
  | _, _ => .bad
noncomputable def fSum : List A → Store → Res
  | [x], S => (match asL S x with
    | some ds => (match intsOf ds with
      | some bs => .ok (.val (.int bs.sum)) S
      | none => .bad)
    | none => .bad)
  | _, _ => .bad
noncomputable def fStr : List A → Store → Res
  | [.val (.int i)], S => if decide (i.natAbs.log2 < 1920) then .ok (.val (.str (toString i : String))) S else .bad
  | [.val (.str s)], S => .ok (.val (.str s)) S
  | _, _ => .bad
noncomputable def fInt : List A → Store → Res
  | [.val (.int i)], S => .ok (.val (.int i)) S
  | [.val (.bl b)], S => .ok (.val (.int (if b then 1 else 0))) S
  | [.val (.str s)], S => (match PySem.intText? s with
    | some n => if decide (s.length ≤ 640) then .ok (.val (.int n)) S else .bad
    | none => .bad)
  | _, _ => .bad
noncomputable def fAbs : List A → Store → Res
  | [.val (.int i)], S => .ok (.val (.int (if i < 0 then -i else i))) S
  | _, _ => .bad
noncomputable def fMax2 : List A → Store → Res
  | [.val (.int i), .val (.int j)], S => .ok (.val (.int (if j > i then j else i))) S
  | _, _ => .bad
noncomputable def fMin2 : List A → Store → Res
  | [.val (.int i), .val (.int j)], S => .ok (.val (.int (if j < i then j else i))) S
  | _, _ => .bad
noncomputable def fDivmod : List A → Store → Res
  | [.val (.int i), .val (.int j)], S => if decide (0 < j) && decide (j < 1073741824) then .ok (.val (.tup [.int (i / j), .int (i % j)])) S else .bad
  | _, _ => .bad
noncomputable def maxI : List Int → Option Int
  | [] => none
  | i :: r => some (r.foldl max i)
noncomputable def minI : List Int → Option Int
  | [] => none
  | i :: r => some (r.foldl min i)
noncomputable def fMinL : List A → Store → Res
  | [x], S => (match asL S x with
    | some ds => (match intsOf ds with
      | some is => (match minI is with
        | some k => .ok (.val (.int k)) S
        | none => .bad)
      | none => .bad)
    | none => .bad)
  | _, _ => .bad
noncomputable def insI (x : Int) : List Int → List Int
  | [] => [x]
  | y :: r => if x ≤ y then x :: y :: r else y :: insI x r
noncomputable def sortI : List Int → List Int
  | [] => []
  | x :: r => insI x (sortI r)
noncomputable def fSortI : List A → Store → Res
  | [x], S => (match asL S x with
    | some ds => (match intsOf ds with
      | some is => .ok (.val (.lst ((sortI is).map D.int))) S
      | none => .bad)
    | none => .bad)
  | _, _ => .bad
theorem insI_perm (x : Int) : ∀ l : List Int, (insI x l).Perm (x :: l)
  | [] => .refl _
  | y :: r => by
    unfold insI
    split
    · exact .refl _
    · exact ((insI_perm x r).cons y).trans (.swap x y r)
theorem sortI_perm : ∀ l : List Int, (sortI l).Perm l
  | [] => .refl _
  | x :: r => (insI_perm x _).trans ((sortI_perm r).cons x)
theorem insI_pw (x : Int) : ∀ {l : List Int}, l.Pairwise (· ≤ ·) → (insI x l).Pairwise (· ≤ ·)
  | [], _ => List.pairwise_singleton _ _
  | y :: r, h => by
    unfold insI
    have h' := List.pairwise_cons.mp h
    split
    · rename_i hxy
      refine List.pairwise_cons.mpr ⟨fun z hz => ?_, h⟩
      rcases List.mem_cons.mp hz with e | hz
      · rw [e]; exact hxy
      · exact Int.le_trans hxy (h'.1 z hz)
    · rename_i hxy
      refine List.pairwise_cons.mpr ⟨fun z hz => ?_, insI_pw x h'.2⟩
      rcases List.mem_cons.mp ((insI_perm x r).mem_iff.mp hz) with e | hz
      · omega
      · exact h'.1 z hz
theorem sortI_pw : ∀ l : List Int, (sortI l).Pairwise (· ≤ ·)
  | [] => .nil
  | x :: r => insI_pw x (sortI_pw r)
theorem sort_one {l k : List Int} (h : l.Perm k) (h1 : l.Pairwise (· ≤ ·)) (h2 : k.Pairwise (· ≤ ·)) : l = k := h.eq_of_pairwise (fun a b _ _ x y => Int.le_antisymm x y) h1 h2
theorem minI_ok {is : List Int} {k : Int} (h : minI is = some k) : k ∈ is ∧ ∀ y ∈ is, k ≤ y := by
  cases is with
  | nil => cases h
  | cons i r =>
    cases h
    induction r generalizing i with
    | nil => exact ⟨List.mem_singleton.mpr rfl, fun y hy => by rw [List.mem_singleton.mp hy]; exact Int.le_refl _⟩
    | cons j r ih =>
      obtain ⟨a, b⟩ := ih (min i j)
      rw [List.foldl_cons]
      refine ⟨?_, fun y hy => ?_⟩
      · rcases List.mem_cons.mp a with e | e
        · rw [e]
          by_cases q : i ≤ j
          · rw [Int.min_eq_left q]; exact List.mem_cons_self
          · rw [Int.min_eq_right (by omega)]; exact List.mem_cons_of_mem _ List.mem_cons_self
        · exact List.mem_cons_of_mem _ (List.mem_cons_of_mem _ e)
      · have h0 := b (min i j) List.mem_cons_self
        rcases List.mem_cons.mp hy with e | hy
        · rw [e]; exact Int.le_trans h0 (Int.min_le_left _ _)
        · rcases List.mem_cons.mp hy with e | hy
          · rw [e]; exact Int.le_trans h0 (Int.min_le_right _ _)
          · exact b y (List.mem_cons_of_mem _ hy)
section
variable {X : Cx} {cl : ClT}
theorem one_arg {K : PySem.W.Frag} {N : Addr → Prop} {H : Hp} {m : List Addr} {vs : List V} {x : A} (r : RepAs K cl N H m vs [x]) : ∃ v, vs = [v] ∧ RepA K cl N H m v x := by
  cases r with
  | cons h q => cases q; exact ⟨_, rfl, h⟩
theorem two_args {K : PySem.W.Frag} {N : Addr → Prop} {H : Hp} {m : List Addr} {vs : List V} {x y : A} (r : RepAs K cl N H m vs [x, y]) : ∃ v w, vs = [v, w] ∧ RepA K cl N H m v x ∧ RepA K cl N H m w y := by
  cases r with
  | cons h q =>
    obtain ⟨w, rfl, h2⟩ := one_arg q
    exact ⟨_, w, rfl, h, h2⟩
theorem ok_len : CaOk X.K cl (fun xs H Q => ∃ x n, xs = [x] ∧ LenV X.K x H n ∧ Q (.int n) H) fLen := by
  intro B H m S σ W vs xs Q o r h
  unfold fLen at h
  split at h
  · rename_i s
    obtain ⟨v, rfl, r1⟩ := one_arg r
    cases r1
    split at h
    · rename_i hz
      exact ⟨_, s.length, rfl, ⟨szOk_line hz, rfl⟩, h.here o (.int _)⟩
    · exact h.elim
  · rename_i ds
    obtain ⟨v, rfl, r1⟩ := one_arg r
    obtain ⟨a, xs, rfl, q, rl⟩ := asT_ok (x := .val (.tup ds)) r1 rfl
    exact ⟨_, xs.length, rfl, .inr ⟨xs, q, rfl⟩, by rw [rl.length]; exact h.here o (.int _)⟩
  · obtain ⟨v, rfl, r1⟩ := one_arg r
    split at h
    · rename_i ds hd
      obtain ⟨a, xs, rfl, q, rl⟩ := asL_ok o r1 hd
      exact ⟨_, xs.length, rfl, .inl ⟨xs, q, rfl⟩, by rw [rl.length]; exact h.here o (.int _)⟩
    · exact h.elim
  · exact h.elim
theorem ok_tuple : CaOk X.K cl (fun xs H Q => ∃ p ys, xs = [.ref p] ∧ ((SqL X.K H p ys ∧ NewT ys H Q) ∨ (SqT X.K H p ys ∧ Q (.ref p) H))) fTuple := by
  intro B H m S σ W vs xs Q o r h
  unfold fTuple at h
  split at h
  · rename_i ds
    obtain ⟨v, rfl, r1⟩ := one_arg r
    obtain ⟨a, xs, rfl, q, rl⟩ := asT_ok (x := .val (.tup ds)) r1 rfl
    exact ⟨a, xs, rfl, .inr ⟨q, h.here o r1⟩⟩
  · obtain ⟨v, rfl, r1⟩ := one_arg r
    split at h
    · rename_i ds hd
      obtain ⟨a, xs, rfl, q, rl⟩ := asL_ok o r1 hd
      exact ⟨a, xs, rfl, .inl ⟨q, mkT_ok o rl h⟩⟩
    · exact h.elim
  · exact h.elim
theorem ok_list (fr : Bool) : CaOk X.K cl (fun xs H Q => ∃ p ys, xs = [.ref p] ∧ (SqL X.K H p ys ∨ SqT X.K H p ys) ∧ ∀ l, H l = none → Q (.ref l) (upd H l (.lst ys))) (fList fr) := by
  intro B H m S σ W vs xs Q o r h
  unfold fList at h
  split at h
  · rename_i ds
    obtain ⟨v, rfl, r1⟩ := one_arg r
    obtain ⟨a, xs, rfl, q, rl⟩ := asT_ok (x := .val (.tup ds)) r1 rfl
    exact ⟨a, xs, rfl, .inr q, fun l hl => mkL_ok o rl hl h⟩
  · obtain ⟨v, rfl, r1⟩ := one_arg r
    split at h
    · rename_i ds hd
      obtain ⟨a, xs, rfl, q, rl⟩ := asL_ok o r1 hd
      exact ⟨a, xs, rfl, .inl q, fun l hl => mkL_ok o rl hl h⟩
    · exact h.elim
  · exact h.elim
theorem ok_all : CaOk X.K cl (rAll X.K) fAll := by
  intro B H m S σ W vs xs Q o r h
  unfold fAll at h
  split at h
  · obtain ⟨v, rfl, r1⟩ := one_arg r
    split at h
    · rename_i ds hd
      split at h
      · rename_i bs hb
        obtain ⟨a, xs, rfl, q, rl⟩ := asL_ok o r1 hd
        exact ⟨a, bs, rfl, boolsOf_ok rl hb ▸ q, h.here o (.bl _)⟩
      · exact h.elim
    · exact h.elim
  · exact h.elim
theorem ok_any : CaOk X.K cl (rAny X.K) fAny := by
  intro B H m S σ W vs xs Q o r h
  unfold fAny at h
  split at h
  · obtain ⟨v, rfl, r1⟩ := one_arg r
    split at h
    · rename_i ds hd
      split at h
      · rename_i bs hb
        obtain ⟨a, xs, rfl, q, rl⟩ := asL_ok o r1 hd
        exact ⟨a, bs, rfl, boolsOf_ok rl hb ▸ q, h.here o (.bl _)⟩
      · exact h.elim
    · exact h.elim
  · exact h.elim
theorem ok_sum : CaOk X.K cl (rSum X.K) fSum := by
  intro B H m S σ W vs xs Q o r h
  unfold fSum at h
  split at h
  · obtain ⟨v, rfl, r1⟩ := one_arg r
    split at h
    · rename_i ds hd
      split at h
      · rename_i bs hb
        obtain ⟨a, xs, rfl, q, rl⟩ := asL_ok o r1 hd
        exact ⟨a, bs, rfl, intsOf_ok rl hb ▸ q, h.here o (.int _)⟩
      · exact h.elim
    · exact h.elim
  · exact h.elim
theorem ok_minL : CaOk X.K cl (rMin X.K) fMinL := by
  intro B H m S σ W vs xs Q o r h
  unfold fMinL at h
  split at h
  · obtain ⟨v, rfl, r1⟩ := one_arg r
    split at h
    · rename_i ds hd
      split at h
      · rename_i bs hb
        split at h
        · rename_i k hk
          obtain ⟨a, xs, rfl, q, rl⟩ := asL_ok o r1 hd
          obtain ⟨k1, k2⟩ := minI_ok hk
          refine ⟨a, bs, rfl, intsOf_ok rl hb ▸ q, List.length_pos_of_mem k1, fun j hj h2 => ?_⟩
          have e : j = k := Int.le_antisymm (h2 k k1) (k2 j hj)
          rw [e]
          exact h.here o (.int _)
        · exact h.elim
      · exact h.elim
    · exact h.elim
  · exact h.elim
theorem ok_sortI : CaOk X.K cl (rSortedI X.K) fSortI := by
  intro B H m S σ W vs xs Q o r h
  unfold fSortI at h
  split at h
  · obtain ⟨v, rfl, r1⟩ := one_arg r
    split at h
    · rename_i ds hd
      split at h
      · rename_i bs hb
        obtain ⟨a, xs, rfl, q, rl⟩ := asL_ok o r1 hd
        refine ⟨a, bs, rfl, intsOf_ok rl hb ▸ q, fun ns p hp hw hn => ?_⟩
        have e : ns = sortI bs := sort_one (hp.trans (sortI_perm bs).symm) hw (sortI_pw bs)
        subst e
        exact mkL_ok (fr := true) o (RepL.ints _) hn h
      · exact h.elim
    · exact h.elim
  · exact h.elim
theorem call_strM : CallR X (.type "str") (fun xs H Q => (∃ i, xs = [.int i] ∧ i.natAbs.log2 < 1920 ∧ Q (.str (toString i : String)) H) ∨ ∃ a, xs = [.str a] ∧ Q (.str a) H) := CallR.or call_str_int SkE.call_str_str
theorem ok_str : CaOk X.K cl (fun xs H Q => (∃ i, xs = [.int i] ∧ i.natAbs.log2 < 1920 ∧ Q (.str (toString i : String)) H) ∨ ∃ a, xs = [.str a] ∧ Q (.str a) H) fStr := by
  intro B H m S σ W vs xs Q o r h
  unfold fStr at h
  split at h
  · rename_i i
    obtain ⟨v, rfl, r1⟩ := one_arg r
    cases r1
    split at h
    · rename_i hz
      exact .inl ⟨i, rfl, of_decide_eq_true hz, h.here o (.str _)⟩
    · exact h.elim
  · rename_i s
    obtain ⟨v, rfl, r1⟩ := one_arg r
    cases r1
    exact .inr ⟨s, rfl, h.here o (.str _)⟩
  · exact h.elim
noncomputable def rIntM : List V → Hp → VK → Prop := fun xs H Q => ((∃ i, xs = [.int i] ∧ Q (.int i) H) ∨ ∃ k, xs = [.bl k] ∧ Q (.int (if k then 1 else 0)) H) ∨ ∃ a n, xs = [.str a] ∧ PySem.intText? a = some n ∧ a.length ≤ 640 ∧ Q (.int n) H
theorem call_intM : CallR X (.type "int") rIntM := CallR.or call_int1 call_int_str
theorem ok_int : CaOk X.K cl rIntM fInt := by
  intro B H m S σ W vs xs Q o r h
  unfold fInt at h
  split at h
  · rename_i i
    obtain ⟨v, rfl, r1⟩ := one_arg r
    cases r1
    exact .inl (.inl ⟨i, rfl, h.here o (.int _)⟩)
  · rename_i b
    obtain ⟨v, rfl, r1⟩ := one_arg r
    cases r1
    exact .inl (.inr ⟨b, rfl, h.here o (.int _)⟩)
  · rename_i s
    obtain ⟨v, rfl, r1⟩ := one_arg r
    cases r1
    split at h
    · rename_i n hn
      split at h
      · rename_i hz
        exact .inr ⟨s, n, rfl, hn, of_decide_eq_true hz, h.here o (.int _)⟩
      · exact h.elim
    · exact h.elim
  · exact h.elim
theorem ok_abs : CaOk X.K cl (fun xs H Q => ∃ i, xs = [.int i] ∧ Q (.int (if i < 0 then -i else i)) H) fAbs := by
  intro B H m S σ W vs xs Q o r h
  unfold fAbs at h
  split at h
  · rename_i i
    obtain ⟨v, rfl, r1⟩ := one_arg r
    cases r1
    exact ⟨i, rfl, h.here o (.int _)⟩
  · exact h.elim
theorem ok_max2 : CaOk X.K cl (fun xs H Q => ∃ i j, xs = [.int i, .int j] ∧ Q (.int (if j > i then j else i)) H) fMax2 := by
  intro B H m S σ W vs xs Q o r h
  unfold fMax2 at h
  split at h
  · rename_i i j
    obtain ⟨v, w, rfl, r1, r2⟩ := two_args r
    cases r1; cases r2
    exact ⟨i, j, rfl, h.here o (.int _)⟩
  · exact h.elim
theorem ok_min2 : CaOk X.K cl (fun xs H Q => ∃ i j, xs = [.int i, .int j] ∧ Q (.int (if j < i then j else i)) H) fMin2 := by
  intro B H m S σ W vs xs Q o r h
  unfold fMin2 at h
  split at h
  · rename_i i j
    obtain ⟨v, w, rfl, r1, r2⟩ := two_args r
    cases r1; cases r2
    exact ⟨i, j, rfl, h.here o (.int _)⟩
  · exact h.elim
theorem ok_divmod : CaOk X.K cl (fun xs H Q => ∃ i j, xs = [.int i, .int j] ∧ CDiv i j ∧ NewT [.int (i / j), .int (i % j)] H Q) fDivmod := by
  intro B H m S σ W vs xs Q o r h
  unfold fDivmod at h
  split at h
  · rename_i i j
    obtain ⟨v, w, rfl, r1, r2⟩ := two_args r
    cases r1; cases r2
    split at h
    · rename_i hz
      simp only [Bool.and_eq_true, decide_eq_true_eq] at hz
      exact ⟨i, j, rfl, hz, mkT_ok o (.cons (.int _) (.cons (.int _) .nil)) h⟩
    · exact h.elim
  · exact h.elim
end
end T3
namespace T3
open PySem PySem.Spec PyProof.Rows L2
/-! ### in -/
noncomputable def flatD : D → Bool
  | .non | .bl _ | .int _ | .str _ => true
  | _ => false
noncomputable def inD (x : D) (ds : List D) : Bool := ds.any fun y => dEq y x
noncomputable def fInB (x y : A) (S : Store) : Option Bool := match x, y with
  | .val (.str a), .val (.str b) => if a.cps.toList.length = 1 then some (decide (a.cps.toList.getD 0 0 ∈ b.cps.toList)) else none
  | .val d, y => match (match y with
      | .val (.tup ds) => some ds
      | y => asL S y) with
    | some ds => if flatD d && ds.all flatD then some (inD d ds) else (match asL S y with
      | some ds => if shp d && dOkL ds && decide (dDepL ds ≤ 50) then some (inD d ds) else none
      | none => none)
    | none => none
  | _, _ => none
noncomputable def fIn (x y : A) (S : Store) : Res := match fInB x y S with
  | some b => .ok (.val (.bl b)) S
  | none => .bad
noncomputable def fNotIn (x y : A) (S : Store) : Res := match fInB x y S with
  | some b => .ok (.val (.bl (!b))) S
  | none => .bad
section
variable {X : Cx} {cl : ClT} {W : WX}
theorem flat_V {K : PySem.W.Frag} {N : Addr → Prop} {H : Hp} {v : V} {d : D} (r : Rep K cl N H v d) (h : flatD d = true) : flatV v = true := by
  cases r <;> first | rfl | cases h
theorem flats_V {K : PySem.W.Frag} {N : Addr → Prop} {H : Hp} : ∀ {vs : List V} {ds : List D}, RepL K cl N H vs ds → ds.all flatD = true → vs.all flatV = true
  | _, _, .nil, _ => rfl
  | _, _, .cons h r, hz => by
    simp only [List.all_cons, Bool.and_eq_true] at hz ⊢
    exact ⟨flat_V h hz.1, flats_V r hz.2⟩
theorem eqV_dEq {K : PySem.W.Frag} {N : Addr → Prop} {H : Hp} {v w : V} {d e : D} (r : Rep K cl N H v d) (q : Rep K cl N H w e) (hd : flatD d = true) (he : flatD e = true) : eqV v w = dEq d e := by
  cases r <;> first | (cases q <;> first | rfl | cases he) | cases hd
theorem inV_inD {K : PySem.W.Frag} {N : Addr → Prop} {H : Hp} {v : V} {d : D} (r : Rep K cl N H v d) (hd : flatD d = true) : ∀ {vs : List V} {ds : List D}, RepL K cl N H vs ds → ds.all flatD = true → inV v vs = inD d ds
  | _, _, .nil, _ => rfl
  | _, _, .cons h q, hz => by
    simp only [List.all_cons, Bool.and_eq_true] at hz
    unfold inV inD
    rw [List.any_cons, List.any_cons, eqV_dEq h r hz.1 hd]
    have := inV_inD r hd q hz.2
    unfold inV inD at this
    rw [this]
theorem any_toP {d : D} (hd : dOk d = true) : ∀ {ds : List D}, dOkL ds = true → ((toPL ds).any fun z => PyData.eqv z (toP d)) = inD d ds
  | [], _ => rfl
  | e :: ds, h => by
    simp only [dOkL, Bool.and_eq_true] at h
    unfold inD
    show (PyData.eqv (toP e) (toP d) || (toPL ds).any _) = _
    rw [dEq_toP h.1 hd, any_toP hd h.2]
    rfl
noncomputable def rInM (K : PySem.W.Frag) (neg : Bool) : R2 := fun x y H Q => (∃ (c : Nat) (z : Str), x = .str ⟨#[c]⟩ ∧ y = .str z ∧ Q (.bl (if neg then !decide (c ∈ z.cps.toList) else decide (c ∈ z.cps.toList))) H) ∨
  (rIn K neg x y H Q ∨ ∃ d ds, Dp K H x d ∧ Dp K H y (.list ds) ∧ SeqAt.shaped d = true ∧ SeqAt.shaped (.list ds) = true ∧ Q (.bl (if neg then !ds.any (fun z => PyData.eqv z d) else ds.any fun z => PyData.eqv z d)) H)
theorem op_inM (hu : X.A.units + 65 < cLine) : OpR X (compareOp .In) (rInM X.K false) := by
  refine OpR.or ?_ (OpR.or op_in_seq ?_)
  · exact fun pins s σ H x y v u Q I rx ry q => op_in_sign pins s σ H x y v u Q I rx ry q
  · exact fun pins s σ H x y v u Q I rx ry q => op_inD hu pins s σ H x y v u Q I rx ry q
theorem op_notInM (hu : X.A.units + 65 < cLine) : OpR X (compareOp .NotIn) (rInM X.K true) := by
  refine OpR.or ?_ (OpR.or op_notIn_seq ?_)
  · exact fun pins s σ H x y v u Q I rx ry q => op_notIn_sign pins s σ H x y v u Q I rx ry q
  · exact fun pins s σ H x y v u Q I rx ry q => op_notInD hu pins s σ H x y v u Q I rx ry q
theorem asL_cur {S : Store} {y : A} {ds : List D} (h : asL S y = some ds) : ∃ e, cur S y = some e ∧ toP e = .list (toPL ds) ∧ (dOkL ds = true → dOk e = true) := by
  cases y with
  | ref i =>
    simp only [asL] at h
    split at h <;> cases h
    rename_i hs
    exact ⟨.lst ds, by simp only [cur, hs], rfl, fun q => q⟩
  | val d =>
    cases d <;> simp only [asL] at h <;> cases h
    · exact ⟨_, rfl, rfl, fun q => q⟩
    · exact ⟨_, rfl, rfl, fun q => q⟩
theorem in_ok {neg : Bool} {B : Addr → Prop} {H : Hp} {m : List Addr} {S : Store} {v w : V} {x y : A} {b : Bool} {Q : VK} (o : Ok X.K cl B H m S) (rx : RepA X.K cl (NN B m) H m v x) (ry : RepA X.K cl (NN B m) H m w y) (h : fInB x y S = some b) (q : Q (.bl (if neg then !b else b)) H) : rInM X.K neg v w H Q := by
  unfold fInB at h
  split at h
  · rename_i a c
    cases rx; cases ry
    split at h
    · rename_i hl
      cases h
      obtain ⟨k, hk⟩ := List.length_eq_one_iff.mp hl
      refine .inl ⟨k, c, ?_, rfl, ?_⟩
      · have : a = ⟨#[k]⟩ := by
          obtain ⟨arr⟩ := a
          have : arr.toList = [k] := hk
          congr 1
          exact Array.toList_inj.mp this
        rw [this]
      · rw [hk] at q
        exact q
    · cases h
  · rename_i d _
    split at h
    rotate_left
    · cases h
    rename_i ds hd
    have view : ∃ p vs, w = .ref p ∧ (SqL X.K H p vs ∨ SqT X.K H p vs) ∧ RepL X.K cl (NN B m) H vs ds := by
      split at hd
      · cases hd
        obtain ⟨a, vs, rfl, e, r⟩ := asT_ok (x := .val (.tup ds)) ry rfl
        exact ⟨a, vs, rfl, .inr e, r⟩
      · obtain ⟨a, vs, rfl, e, r⟩ := asL_ok o ry hd
        exact ⟨a, vs, rfl, .inl e, r⟩
    split at h
    · rename_i hz
      cases h
      simp only [Bool.and_eq_true] at hz
      obtain ⟨p, vs, rfl, e, r⟩ := view
      refine .inr (.inl ⟨p, vs, rfl, e, flat_V rx hz.1, flats_V r hz.2, ?_⟩)
      rw [inV_inD rx hz.1 r hz.2]
      exact q
    · split at h
      · rename_i es he
        split at h
        · rename_i hz
          cases h
          simp only [Bool.and_eq_true, decide_eq_true_eq] at hz
          obtain ⟨e, h1, h2, h3⟩ := asL_cur he
          have rd : Rep X.K cl N0 H v d := Rep.weak (fun _ z => z.elim) rx
          refine .inr (.inr ⟨toP d, toPL es, Dp.of rd (shp_ok hz.1.1), ?_, shp_shaped hz.1.1, ?_, ?_⟩)
          · rw [← h2]; exact Dp.of (cur_ok o ry h1) (h3 hz.1.2)
          · have := canLayL_toP hz.1.2
            have hdp := depthL_toP hz.1.2
            simp only [SeqAt.shaped, Bool.and_eq_true, decide_eq_true_eq]
            exact ⟨this, by show PyData.depthAll (toPL es) + 1 ≤ 64; omega⟩
          · rw [any_toP (shp_ok hz.1.1) hz.1.2]
            exact q
        · cases h
      · cases h
  · cases h
theorem ok_in : OpOk X.K cl (rInM X.K false) fIn := by
  intro B H m S σ W v w x y Q o rx ry h
  unfold fIn at h
  split at h
  · rename_i b hb
    exact in_ok (neg := false) o rx ry hb (h.here o (.bl _))
  · exact h.elim
theorem ok_notIn : OpOk X.K cl (rInM X.K true) fNotIn := by
  intro B H m S σ W v w x y Q o rx ry h
  unfold fNotIn at h
  split at h
  · rename_i b hb
    exact in_ok (neg := true) o rx ry hb (h.here o (.bl _))
  · exact h.elim
end
end T3
namespace T3
open PySem PySem.Spec PyProof.Rows L2
/-! ### methods of built-in types -/
noncomputable def tyL (x : A) (S : Store) : Bool := (asL S x).isSome
noncomputable def tyS : A → Store → Bool
  | .val (.str _), _ => true
  | _, _ => false
noncomputable def cMt (ty : A → Store → Bool) (f : A → List A → Store → Res) (c : CE) (ca : CA) : CE := fun ρ S => (c ρ S).bind fun x S1 => if ty x S1 then (ca ρ S1).bind fun xs S2 => f x xs S2 else .bad
noncomputable def cMt0 (ty : A → Store → Bool) (f : A → List A → Store → Res) (c : CE) : CE := fun ρ S => (c ρ S).bind fun x S1 => if ty x S1 then f x [] S1 else .bad
section
variable {X : Cx} {cl : ClT} {W : WX}
noncomputable def TyOk (K : PySem.W.Frag) (cl : ClT) (T : String) (ty : A → Store → Bool) : Prop := ∀ {B : Addr → Prop} {H : Hp} {m : List Addr} {S : Store} {v : V} {x : A}, Ok K cl B H m S → RepA K cl (NN B m) H m v x → ty x S = true → tyV K T v H
theorem ty_list {K : PySem.W.Frag} : TyOk K cl "list" tyL := by
  intro B H m S v x o r h
  unfold tyL at h
  cases e : asL S x with
  | none => rw [e] at h; cases h
  | some ds =>
    obtain ⟨a, vs, rfl, q, _⟩ := asL_ok o r e
    exact .inl ⟨rfl, vs, q⟩
theorem ty_str {K : PySem.W.Frag} : TyOk K cl "str" tyS := by
  intro B H m S v x o r h
  cases x with
  | ref i => cases h
  | val d =>
    cases d <;> first | cases h | skip
    cases r
    rfl
theorem tBM_ok {T : String} {ty : A → Store → Bool} {r : V → List V → Hp → VK → Prop} {f : A → List A → Store → Res} {c : CE} {ca : CA} (hty : TyOk X.K cl T ty) (hf : MtOk X.K cl r f) {σ : L2.St} {H : Hp} {Q : VK} (h : tM X.K cl W (cMt ty f c ca) σ H Q) : tBM X.K T r (tM X.K cl W c) (tML X.K cl W ca) σ H Q := by
  obtain ⟨B, m, S, ρ, o, e, fin⟩ := h
  refine ⟨B, m, S, ρ, o, e, Fin.bind fin fun x S1 v H1 m1 s1 o1 r1 f1 => ?_⟩
  split at f1
  · rename_i ht
    refine ⟨hty o1 r1 ht, B, m1, S1, ρ, o1, s1.env o e, FinL.bind f1 fun xs S2 vs H2 m2 s2 o2 r2 f2 => ?_⟩
    exact hf o2 (s2.rep o1 r1) r2 f2
  · exact f1.elim
theorem tBM0_ok {T : String} {ty : A → Store → Bool} {r : V → List V → Hp → VK → Prop} {f : A → List A → Store → Res} {c : CE} (hty : TyOk X.K cl T ty) (hf : MtOk X.K cl r f) {σ : L2.St} {H : Hp} {Q : VK} (h : tM X.K cl W (cMt0 ty f c) σ H Q) : tBM0 X.K T r (tM X.K cl W c) σ H Q := by
  obtain ⟨B, m, S, ρ, o, e, fin⟩ := h
  refine ⟨B, m, S, ρ, o, e, Fin.bind fin fun x S1 v H1 m1 s1 o1 r1 f1 => ?_⟩
  split at f1
  · rename_i ht
    exact ⟨hty o1 r1 ht, hf o1 r1 .nil f1⟩
  · exact f1.elim
noncomputable def fAppend (x : A) (xs : List A) (S : Store) : Res := match x, xs with
  | .ref i, [.val d] => (match S[i]? with
    | some (.lst ds) => if szOk ds.length then .ok (.val .non) (S.set i (.lst (ds ++ [d]))) else .bad
    | _ => .bad)
  | _, _ => .bad
theorem ok_append : MtOk X.K cl rAppend fAppend := by
  intro B H m S σ W v x vs xs Q o rx rs h
  unfold fAppend at h
  split at h
  · rename_i i d
    obtain ⟨w, rfl, r1⟩ := one_arg rs
    split at h
    · rename_i ds hs
      split at h
      · rename_i hz
        obtain ⟨a, ha, rfl⟩ := rx
        obtain ⟨ys, e, rl⟩ := o.obj i a _ ha hs
        obtain ⟨st, ok⟩ := Ok.write X.K o (u := .lst (ds ++ [d])) (w := .lst (ys ++ [w])) ha fun H' hb hw => ⟨_, hw, (rl.append (.cons r1 .nil)).mono (kp_at (.inr (List.mem_of_getElem? ha)) hb)⟩
        exact ⟨a, ys, w, rfl, rfl, e, by rw [rl.length]; exact szOk_lt hz, h _ _ m st ok .non⟩
      · exact h.elim
    · exact h.elim
  · exact h.elim
theorem pm_append {o e : Expr} {c ce : CE} {apos cpos : Pos} (ho : PE X o (tM X.K cl W c)) (ha : PE X e (tM X.K cl W ce)) (hs1 : starEach [e] X.env = (false, eval e X.env) :: starEach [] X.env := by rfl)
    (hbase : attributeBase o "append" X.env (eval o X.env) = eval o X.env := by rfl) (hfew : ((backTo cpos (starEach [e] X.env)).all (fun x => !x.1) && (backToKw cpos (keywordEach [] X.env)).all (fun x => x.1.isSome)
      && decide ([e].length + ([] : List Keyword).length + (if ([] : List Keyword).isEmpty then 0 else 1) < 30)) = true := by rfl) (hline : (apos.endLine == cpos.line) = true := by rfl) (hplain : (backTo cpos (starEach [] X.env)).any (·.1) = false := by rfl) :
    PE X (.Call (.Attribute o "append" apos) [e] [] cpos) (tM X.K cl W (cMt tyL fAppend c (cCons ce cNil))) :=
  PE.imp (pe_bm PySem.F.plainAttrs_list PySem.F.slot_list_append PySem.F.type_list_append mt_append ho (pm_cons ha pm_nil hs1) hbase hfew hline hs1 hplain) fun _ _ _ h => tBM_ok ty_list ok_append h
/-- xs.pop(i) -/
noncomputable def fPop (x : A) (xs : List A) (S : Store) : Res := match x, xs with
  | .ref j, [.val (.int i)] => (match S[j]? with
    | some (.lst ds) => if decide (-1000000 ≤ i) && decide (i ≤ 1000000) then (match seqIndex? i ds.length with
      | some k => (match ds[k]? with
        | some d => .ok (.val d) (S.set j (.lst (ds.eraseIdx k)))
        | none => .bad)
      | none => .bad) else .bad
    | _ => .bad)
  | _, _ => .bad
theorem RepL.erase {K : PySem.W.Frag} {N : Addr → Prop} {H : Hp} : ∀ {vs : List V} {ds : List D} (k : Nat), RepL K cl N H vs ds → RepL K cl N H (vs.eraseIdx k) (ds.eraseIdx k)
  | _, _, _, .nil => .nil
  | _, _, 0, .cons _ r => r
  | _, _, k + 1, .cons h r => .cons h (r.erase k)
theorem ok_pop : MtOk X.K cl rPopAt fPop := by
  intro B H m S σ W v x vs xs Q o rx rs h
  unfold fPop at h
  split at h
  · rename_i j i
    obtain ⟨w, rfl, r1⟩ := one_arg rs
    cases r1
    split at h
    · rename_i ds hs
      split at h
      · rename_i hz
        simp only [Bool.and_eq_true, decide_eq_true_eq] at hz
        split at h
        · rename_i k hk
          split at h
          · rename_i d hd
            obtain ⟨a, ha, rfl⟩ := rx
            obtain ⟨ys, e, rl⟩ := o.obj j a _ ha hs
            obtain ⟨y, h1, h2⟩ := rl.got hd
            have kp : ∀ {H' : Hp}, (∀ b, b ≠ a → H' b = H b) → Kp (NN B m) (NN B m) H H' := fun hb => kp_at (.inr (List.mem_of_getElem? ha)) hb
            obtain ⟨st, ok⟩ := Ok.write X.K o (u := .lst (ds.eraseIdx k)) (w := .lst (ys.eraseIdx k)) ha fun H' hb hw => ⟨_, hw, (rl.erase k).mono (kp hb)⟩
            exact ⟨a, ys, i, k, y, rfl, rfl, e, by omega, by omega, by rw [rl.length]; exact hk, h1, h _ _ m st ok (h2.mono (kp fun b hb => upd_ne hb))⟩
          · exact h.elim
        · exact h.elim
      · exact h.elim
    · exact h.elim
  · exact h.elim
theorem pm_pop {o e : Expr} {c ce : CE} {apos cpos : Pos} (ho : PE X o (tM X.K cl W c)) (ha : PE X e (tM X.K cl W ce)) (hs1 : starEach [e] X.env = (false, eval e X.env) :: starEach [] X.env := by rfl)
    (hbase : attributeBase o "pop" X.env (eval o X.env) = eval o X.env := by rfl) (hfew : ((backTo cpos (starEach [e] X.env)).all (fun x => !x.1) && (backToKw cpos (keywordEach [] X.env)).all (fun x => x.1.isSome)
      && decide ([e].length + ([] : List Keyword).length + (if ([] : List Keyword).isEmpty then 0 else 1) < 30)) = true := by rfl) (hline : (apos.endLine == cpos.line) = true := by rfl) (hplain : (backTo cpos (starEach [] X.env)).any (·.1) = false := by rfl) :
    PE X (.Call (.Attribute o "pop" apos) [e] [] cpos) (tM X.K cl W (cMt tyL fPop c (cCons ce cNil))) :=
  PE.imp (pe_bm PySem.F.plainAttrs_list PySem.F.slot_list_pop PySem.F.type_list_pop mt_popAt ho (pm_cons ha pm_nil hs1) hbase hfew hline hs1 hplain) fun _ _ _ h => tBM_ok ty_list ok_pop h
/-- sep.join(texts) -/
noncomputable def joinN (ys : List Str) : Nat := (ys.map (·.length)).sum
noncomputable def fJoin (x : A) (xs : List A) (S : Store) : Res := match x, xs with
  | .val (.str s), [y] => (match (match y with
      | .val (.tup ds) => some ds
      | y => asL S y) with
    | some ds => (match strsOf ds with
      | some ys => if szOk (joinN ys + ys.length * s.length) then .ok (.val (.str (Txt.join s ys))) S else .bad
      | none => .bad)
    | none => .bad)
  | _, _ => .bad
theorem ok_join : MtOk X.K cl (fun x xs H Q => ∃ a p, ∃ ys : List Str, x = .str a ∧ xs = [.ref p] ∧ (SqL X.K H p (ys.map V.str) ∨ SqT X.K H p (ys.map V.str)) ∧ (ys.map (·.length)).sum + ys.length * a.length ≤ 16777216 ∧ Q (.str (Txt.join a ys)) H) fJoin := by
  intro B H m S σ W v x vs xs Q o rx rs h
  unfold fJoin at h
  split at h
  · rename_i s y
    cases rx
    obtain ⟨w, rfl, r1⟩ := one_arg rs
    split at h
    rotate_left
    · exact h.elim
    rename_i ds hd
    have view : ∃ p vs, w = .ref p ∧ (SqL X.K H p vs ∨ SqT X.K H p vs) ∧ RepL X.K cl (NN B m) H vs ds := by
      split at hd
      · cases hd
        obtain ⟨a, vs, rfl, e, r⟩ := asT_ok (x := .val (.tup ds)) r1 rfl
        exact ⟨a, vs, rfl, .inr e, r⟩
      · obtain ⟨a, vs, rfl, e, r⟩ := asL_ok o r1 hd
        exact ⟨a, vs, rfl, .inl e, r⟩
    obtain ⟨p, us, rfl, hq, rl⟩ := view
    split at h
    · rename_i ys hy
      split at h
      · rename_i hz
        have := strsOf_ok rl hy
        subst this
        exact ⟨s, p, ys, rfl, rfl, hq, Nat.le_trans (of_decide_eq_true hz) (by decide), h.here o (.str _)⟩
      · exact h.elim
    · exact h.elim
  · exact h.elim
theorem pm_join {o e : Expr} {c ce : CE} {apos cpos : Pos} (ho : PE X o (tM X.K cl W c)) (ha : PE X e (tM X.K cl W ce)) (hs1 : starEach [e] X.env = (false, eval e X.env) :: starEach [] X.env := by rfl)
    (hbase : attributeBase o "join" X.env (eval o X.env) = eval o X.env := by rfl) (hfew : ((backTo cpos (starEach [e] X.env)).all (fun x => !x.1) && (backToKw cpos (keywordEach [] X.env)).all (fun x => x.1.isSome)
      && decide ([e].length + ([] : List Keyword).length + (if ([] : List Keyword).isEmpty then 0 else 1) < 30)) = true := by rfl) (hline : (apos.endLine == cpos.line) = true := by rfl) (hplain : (backTo cpos (starEach [] X.env)).any (·.1) = false := by rfl) :
    PE X (.Call (.Attribute o "join" apos) [e] [] cpos) (tM X.K cl W (cMt tyS fJoin c (cCons ce cNil))) :=
  PE.imp (pe_bm PySem.F.plainAttrs_str PySem.F.slot_str_join PySem.F.type_str_join mt_join ho (pm_cons ha pm_nil hs1) hbase hfew hline hs1 hplain) fun _ _ _ h => tBM_ok ty_str ok_join h
end
end T3
namespace T3
open PySem PySem.Spec PyProof.Rows L2
/-! ### repr -/
mutual
/-- a bound for the text's length -/
noncomputable def rsz : D → Nat
  | .str s => 10 * s.length + 2
  | .tup xs => rszL xs + 4
  | .lst xs => rszL xs + 4
  | .ro xs => rszL xs + 4
  | _ => 2000
noncomputable def rszL : List D → Nat
  | [] => 0
  | x :: r => rsz x + 2 + rszL r
end
mutual
/-- ints that can be written -/
noncomputable def shw : D → Bool
  | .int i => decide (i.natAbs.log2 < 1920)
  | .tup xs => shwL xs
  | .lst xs => shwL xs
  | .ro xs => shwL xs
  | _ => true
noncomputable def shwL : List D → Bool
  | [] => true
  | x :: r => shw x && shwL r
end
mutual
theorem shw_toP : ∀ {d : D}, dOk d = true → shw d = true → PyData.showable (toP d) = true
  | .non, _, _ => rfl
  | .bl b, _, _ => rfl
  | .int b, _, h => h
  | .str b, _, _ => rfl
  | .tup xs, h, q => shwL_toP (ds := xs) h q
  | .lst xs, h, q => shwL_toP (ds := xs) h q
  | .ro xs, h, q => shwL_toP (ds := xs) h q
  | .dic _ _, h, _ => by cases h
  | .ins _ _ _, h, _ => by cases h
theorem shwL_toP : ∀ {ds : List D}, dOkL ds = true → shwL ds = true → PyData.showableAll (toPL ds) = true
  | [], _, _ => rfl
  | d :: ds, h, q => by
    simp only [dOkL, shwL, Bool.and_eq_true] at h q
    show (PyData.showable (toP d) && PyData.showableAll (toPL ds)) = true
    rw [shw_toP h.1 q.1, shwL_toP h.2 q.2]
    rfl
end
mutual
theorem noDict_toP : ∀ {d : D}, dOk d = true → PyData.hasDict (toP d) = false
  | .non, _ => rfl
  | .bl b, _ => rfl
  | .int b, _ => rfl
  | .str b, _ => rfl
  | .tup xs, h => noDictL_toP (ds := xs) h
  | .lst xs, h => noDictL_toP (ds := xs) h
  | .ro xs, h => noDictL_toP (ds := xs) h
  | .dic _ _, h => by cases h
  | .ins _ _ _, h => by cases h
theorem noDictL_toP : ∀ {ds : List D}, dOkL ds = true → PyData.hasDictAll (toPL ds) = false
  | [], _ => rfl
  | d :: ds, h => by
    simp only [dOkL, Bool.and_eq_true] at h
    show (PyData.hasDict (toP d) || PyData.hasDictAll (toPL ds)) = false
    rw [noDict_toP h.1, noDictL_toP h.2]
    rfl
end
theorem strLen_app (a b : Str) : (a ++ b).length = a.length + b.length := strLen_append a b
noncomputable def sumL : List Str → Nat
  | [] => 0
  | t :: r => t.length + 2 + sumL r
theorem textFrom_le : ∀ (ts : List Str) (k : Nat) (acc : Str), (textFrom k acc ts).length ≤ acc.length + sumL ts
  | [], k, acc => Nat.le_refl _
  | t :: r, k, acc => by
    have ih := textFrom_le r (k + 1) (acc ++ (if k > 0 then ", " else "" : String) ++ t)
    have e : (acc ++ (if k > 0 then ", " else "" : String) ++ t).length ≤ acc.length + 2 + t.length := by
      rw [strLen_app, strLen_app]
      by_cases hk : k > 0
      · rw [if_pos hk]; exact Nat.le_refl _
      · rw [if_neg hk]
        have : (("" : String) : Str).length = 0 := rfl
        omega
    show (textFrom (k + 1) _ r).length ≤ _
    simp only [sumL]
    omega
theorem join_le : ∀ ts : List Str, (Str.join ", " ts).length ≤ sumL ts
  | [] => Nat.le_refl _
  | [x] => by
    show x.length ≤ x.length + 2 + 0
    omega
  | x :: y :: r => by
    have ih := join_le (y :: r)
    show (x ++ ", " ++ Str.join ", " (y :: r)).length ≤ x.length + 2 + sumL (y :: r)
    rw [strLen_app, strLen_app]
    have : ((", " : String) : Str).length = 2 := rfl
    omega
theorem strOk_lt {s : Str} (h : PySem.PyData.strOk s = true) : ∀ c ∈ s.cps.toList, c < 16 ^ 8 := fun c hc => by
  unfold PySem.PyData.strOk at h
  rw [Array.all_eq_true_iff_forall_mem] at h
  have := of_decide_eq_true (h c (by simpa using hc))
  omega
mutual
theorem shown_le : ∀ {d : D}, dOk d = true → shw d = true → (PyData.shown (toP d)).length ≤ rsz d
  | .non, _, _ => by show ("None" : Str).length ≤ 2000; decide
  | .bl b, _, _ => by
    show (if b then ("True" : Str) else "False").length ≤ 2000
    cases b <;> decide
  | .int b, _, h => by
    have h1 : b.natAbs.log2 < 1920 := of_decide_eq_true h
    have h2 := int_text_length_le (by decide : 0 < 1920) h1
    show (Str.ofString (toString b)).length ≤ 2000
    rw [PySem.ofString_length]
    omega
  | .str s, h, _ => StrLaws.reprText_len s (strOk_lt h)
  | .tup xs, h, q => by
    have := shownL_le (ds := xs) h q
    show (tupleText (PyData.shownAll (toPL xs))).length ≤ rszL xs + 4
    unfold tupleText
    rw [strLen_app, strLen_app]
    have h1 := join_le (PyData.shownAll (toPL xs))
    have h2 : ((if (PyData.shownAll (toPL xs)).length == 1 then ",)" else ")" : String) : Str).length ≤ 2 := by split <;> decide
    have h3 : ("(" : Str).length = 1 := rfl
    omega
  | .lst xs, h, q => by
    have := shownL_le (ds := xs) h q
    show (listText (PyData.shownAll (toPL xs))).length ≤ rszL xs + 4
    unfold listText
    rw [strLen_app]
    have h1 := textFrom_le (PyData.shownAll (toPL xs)) 0 "["
    have h2 : (("[" : String) : Str).length = 1 := rfl
    have h3 : (("]" : String) : Str).length = 1 := rfl
    omega
  | .ro xs, h, q => by
    have := shownL_le (ds := xs) h q
    show (listText (PyData.shownAll (toPL xs))).length ≤ rszL xs + 4
    unfold listText
    rw [strLen_app]
    have h1 := textFrom_le (PyData.shownAll (toPL xs)) 0 "["
    have h2 : (("[" : String) : Str).length = 1 := rfl
    have h3 : (("]" : String) : Str).length = 1 := rfl
    omega
  | .dic _ _, h, _ => by cases h
  | .ins _ _ _, h, _ => by cases h
theorem shownL_le : ∀ {ds : List D}, dOkL ds = true → shwL ds = true → sumL (PyData.shownAll (toPL ds)) ≤ rszL ds
  | [], _, _ => Nat.le_refl _
  | d :: ds, h, q => by
    simp only [dOkL, shwL, Bool.and_eq_true] at h q
    have h1 := shown_le h.1 q.1
    have h2 := shownL_le h.2 q.2
    show (PyData.shown (toP d)).length + 2 + sumL (PyData.shownAll (toPL ds)) ≤ rsz d + 2 + rszL ds
    omega
end
noncomputable def rpOk (d : D) : Bool := shp d && shw d && szOk (rsz d)
noncomputable def rp (d : D) : Str := PyData.shown (toP d)
noncomputable def fRepr : List A → Store → Res
  | [x], S => (match cur S x with
    | some d => if rpOk d then .ok (.val (.str (rp d))) S else .bad
    | none => .bad)
  | _, _ => .bad
section
variable {X : Cx} {cl : ClT} {W : WX}
noncomputable def rRepr (K : PySem.W.Frag) : List V → Hp → VK → Prop := fun vs H Q => ∃ (v : V) (d : PyData), vs = [v] ∧ Dp K H v d ∧ SeqAt.shaped d = true ∧ d.showable = true ∧ d.hasDict = false ∧ d.shown.length ≤ sizeLine ∧ Q (.str d.shown) H
theorem cr_repr (g : X.A.guards = some []) (hu : X.A.units + 70 < cLine) : CallR X (.builtin "repr") (rRepr X.K) := by
  intro pins s σ H xs us Q I r h
  obtain ⟨v, d, rfl, hd, hs, hw, hn, hz, q⟩ := h
  cases r with
  | @cons _ u _ _ r1 r2 =>
    cases r2
    obtain ⟨as, rd⟩ := Dp.reads I d v u hd r1
    have hdep : d.depth ≤ 64 := by
      simp only [SeqAt.shaped, Bool.and_eq_true, decide_eq_true_eq] at hs
      exact hs.2
    cases hd with
    | non => cases r1; exact P.repr_of_none ⟨.str _, H, I.tok _, ⟨_, rfl⟩, q⟩
    | bl b => cases r1; exact P.repr_of_bool ⟨.str _, H, I.tok _, ⟨_, rfl⟩, q⟩
    | int i =>
      obtain ⟨t, rfl⟩ := r1
      exact P.repr_of_int (of_decide_eq_true hw) ⟨.str _, H, I.tok _, ⟨_, rfl⟩, q⟩
    | str z =>
      obtain ⟨t, rfl⟩ := r1
      exact P.repr_of_str ⟨.str _, H, I.tok _, ⟨_, rfl⟩, q⟩ hz
    | lst h1 h2 =>
      cases r1
      exact repr_of_reads' rd hw (fun z => by rw [hn] at z; cases z) g (by omega) (fun _ _ e => e) (fun h' t tk hk => ⟨.str _, H, I.kept (h' := h') (t' := tk) hk, ⟨_, rfl⟩, q⟩) hz
    | tup h1 h2 =>
      cases r1
      exact repr_of_reads' rd hw (fun z => by rw [hn] at z; cases z) g (by omega) (fun _ _ e => e) (fun h' t tk hk => ⟨.str _, H, I.kept (h' := h') (t' := tk) hk, ⟨_, rfl⟩, q⟩) hz
theorem ok_repr : CaOk X.K cl (rRepr X.K) fRepr := by
  intro B H m S σ W vs xs Q o r h
  unfold fRepr at h
  split at h
  · obtain ⟨v, rfl, r1⟩ := one_arg r
    split at h
    · rename_i d hd
      split at h
      · rename_i hz
        simp only [rpOk, Bool.and_eq_true] at hz
        have ok := shp_ok hz.1.1
        exact ⟨v, toP d, rfl, Dp.of (cur_ok o r1 hd) ok, shp_shaped hz.1.1, shw_toP ok hz.1.2, noDict_toP ok, Nat.le_trans (shown_le ok hz.1.2) (szOk_line hz.2), h.here o (.str _)⟩
      · exact h.elim
    · exact h.elim
  · exact h.elim

/-! ### statements that are never reached -/
noncomputable def sBad : CS := fun _ _ => .bad
theorem pm_never {st : Stmt} : PS X st (tMS X.K cl W sBad) := PS.imp ps_never fun E σ H h => by
  obtain ⟨B, m, S, ρ, o, e, fin⟩ := h
  exact fin.elim
/-! ### chains a < b < c of ints -/
noncomputable def cChain (f g : A → A → Store → Res) (ca cb cc : CE) : CE := fun ρ S => (ca ρ S).bind fun x S1 => (cb ρ S1).bind fun y S2 => (f x y S2).bind fun z S3 => match z with
  | .val (.bl true) => (cc ρ S3).bind fun w S4 => g y w S4
  | .val (.bl false) => .ok (.val (.bl false)) S3
  | _ => .bad
theorem tChain_ok {r r' : R2} {f g : A → A → Store → Res} {ca cb cc : CE} (hf : OpOk X.K cl r f) (hg : OpOk X.K cl r' g) {σ : L2.St} {H : Hp} {Q : VK} (h : tM X.K cl W (cChain f g ca cb cc) σ H Q) : tChain r r' (tM X.K cl W ca) (tM X.K cl W cb) (tM X.K cl W cc) σ H Q := by
  obtain ⟨B, m, S, ρ, o, e, fin⟩ := h
  refine ⟨B, m, S, ρ, o, e, Fin.bind fin fun x S1 v H1 m1 s1 o1 r1 f1 => ?_⟩
  refine ⟨B, m1, S1, ρ, o1, s1.env o e, Fin.bind f1 fun y S2 w H2 m2 s2 o2 r2 f2 => ?_⟩
  refine hf o2 (s2.rep o1 r1) r2 (Fin.bind f2 fun z S3 u H3 m3 s3 o3 r3 f3 => ?_)
  have e3 := s3.env o2 (s2.env o1 (s1.env o e))
  split at f3
  · cases r3
    exact ⟨true, rfl, iteT ⟨B, m3, S3, ρ, o3, e3, Fin.bind f3 fun w' S4 u' H4 m4 s4 o4 r4 f4 => hg o4 (s4.rep o3 (s3.rep o2 r2)) r4 f4⟩⟩
  · cases r3
    exact ⟨false, rfl, iteF (f3.here o3 (.bl false))⟩
  · exact f3.elim
theorem pm_chain {a b c : Expr} {op op' : CmpOp} {r r' : R2} {f g : A → A → Store → Res} {ca cb cc : CE} {pos : Pos} (ho : OpR X (compareOp op) r) (ho' : OpR X (compareOp op') r') (hf : OpOk X.K cl r f) (hg : OpOk X.K cl r' g) (ha : PE X a (tM X.K cl W ca)) (hb : PE X b (tM X.K cl W cb)) (hc : PE X c (tM X.K cl W cc)) (hm : lastMarks [op, op'] [b, c] = false := by with_unfolding_all rfl) :
    PE X (.Compare a [op, op'] [b, c] pos) (tM X.K cl W (cChain f g ca cb cc)) := PE.imp (pe_chain ho ho' ha hb hc hm) fun _ _ _ h => tChain_ok hf hg h
/-! ### is None -/
noncomputable def isNon : A → Bool
  | .val .non => true
  | _ => false
noncomputable def fIsN (x y : A) (S : Store) : Res := match y with
  | .val .non => .ok (.val (.bl (isNon x))) S
  | _ => .bad
noncomputable def fNotN (x y : A) (S : Store) : Res := match y with
  | .val .non => .ok (.val (.bl (!isNon x))) S
  | _ => .bad
theorem isN_val {K : PySem.W.Frag} {N : Addr → Prop} {H : Hp} {m : List Addr} {v : V} {x : A} (r : RepA K cl N H m v x) : decide (v = V.non) = isNon x := by
  cases x with
  | ref i => obtain ⟨a, _, rfl⟩ := r; rfl
  | val d => cases r <;> rfl
theorem ok_isN : OpOk X.K cl (fun x y H Q => y = .non ∧ Q (.bl (decide (x = .non))) H) fIsN := by
  intro B H m S σ W v w x y Q o rx ry h
  unfold fIsN at h
  split at h
  · cases ry
    refine ⟨rfl, ?_⟩
    rw [isN_val rx]
    exact h.here o (.bl _)
  · exact h.elim
theorem ok_notN : OpOk X.K cl (fun x y H Q => y = .non ∧ Q (.bl (!decide (x = .non))) H) fNotN := by
  intro B H m S σ W v w x y Q o rx ry h
  unfold fNotN at h
  split at h
  · cases ry
    refine ⟨rfl, ?_⟩
    rw [isN_val rx]
    exact h.here o (.bl _)
  · exact h.elim
end
end T3
namespace T3
open PySem PySem.Spec PyProof.Rows L2
/-! ### *e among the arguments -/
noncomputable def cStar (c : CE) (r : CA) : CA := fun ρ S => match c ρ S with
  | .ok x S1 => (match (match x with
      | .val (.tup ds) => some ds
      | y => asL S1 y) with
    | some ds => (match r ρ S1 with
      | .ok xs S2 => .ok (ds.map A.val ++ xs) S2
      | .exc e S2 => .exc e S2
      | .bad => .bad)
    | none => .bad)
  | .exc e S1 => .exc e S1
  | .bad => .bad
section
variable {X : Cx} {cl : ClT} {W : WX}
theorem vals_As {K : PySem.W.Frag} {N : Addr → Prop} {H : Hp} {m : List Addr} : ∀ {vs : List V} {ds : List D}, RepL K cl N H vs ds → RepAs K cl N H m vs (ds.map A.val)
  | _, _, .nil => .nil
  | _, _, .cons h r => .cons (x := .val _) h (vals_As r)
theorem RepAs.append {K : PySem.W.Frag} {N : Addr → Prop} {H : Hp} {m : List Addr} : ∀ {vs ws : List V} {xs ys : List A}, RepAs K cl N H m vs xs → RepAs K cl N H m ws ys → RepAs K cl N H m (vs ++ ws) (xs ++ ys)
  | _, _, _, _, .nil, s => s
  | _, _, _, _, .cons h r, s => .cons h (RepAs.append r s)
theorem pm_star {e : Expr} {es : List Expr} {c : CE} {r : CA} {p : Pos} (he : PE X e (tM X.K cl W c)) (hr : PA X es (tML X.K cl W r)) (hs : starEach (.Starred e p :: es) X.env = (true, eval e X.env) :: starEach es X.env := by rfl) : PA X (.Starred e p :: es) (tML X.K cl W (cStar c r)) :=
  PA.imp (StX.pa_star he hr hs) fun σ H Q h => by
  obtain ⟨B, m, S, ρ, o, e, fin⟩ := h
  refine ⟨B, m, S, ρ, o, e, ?_⟩
  unfold cStar at fin
  cases hc : c ρ S with
  | bad => rw [hc] at fin; exact fin
  | exc e' S1 => rw [hc] at fin; exact fin
  | ok x S1 =>
    rw [hc] at fin
    intro v H1 m1 s1 o1 r1
    dsimp only at fin
    split at fin
    rotate_left
    · exact fin.elim
    rename_i ds hd
    have view : ∃ p vs, v = .ref p ∧ (SqT X.K H1 p vs ∨ SqL X.K H1 p vs) ∧ RepL X.K cl (NN B m1) H1 vs ds := by
      split at hd
      · cases hd
        obtain ⟨a, vs, rfl, e, r⟩ := asT_ok (x := .val (.tup ds)) r1 rfl
        exact ⟨a, vs, rfl, .inl e, r⟩
      · obtain ⟨a, vs, rfl, e, r⟩ := asL_ok o1 r1 hd
        exact ⟨a, vs, rfl, .inr e, r⟩
    obtain ⟨p, vs, rfl, hq, rl⟩ := view
    refine ⟨p, vs, rfl, hq, B, m1, S1, ρ, o1, s1.env o e, ?_⟩
    cases h2 : r ρ S1 with
    | bad => rw [h2] at fin; exact fin
    | exc y S2 => rw [h2] at fin; exact fun c d H' m' s' => fin c d H' m' (s1.trans s')
    | ok xs S2 =>
      rw [h2] at fin
      intro ws H2 m2 s2 o2 r2
      exact fin (vs ++ ws) H2 m2 (s1.trans s2) o2 ((s2.reps o1 (vals_As rl)).append r2)

/-! ### len(set(..)) of ints -/
noncomputable def dedupI (ns : List Int) : List Int := firstMet (fun i => ns.getD i 0) ns.length
noncomputable def cLenSet (c : CE) : CE := fun ρ S => (c ρ S).bind fun x S1 => match (match x with
    | .val (.tup ds) => some ds
    | y => asL S1 y) with
  | some ds => (match intsOf ds with
    | some ns => if decide (ns.length ≤ 1000) then .ok (.val (.int (dedupI ns).length)) S1 else .bad
    | none => .bad)
  | none => .bad
theorem map_getD : ∀ (ns : List Int), (List.range ns.length).map (fun i => ns.getD i 0) = ns := fun ns => by
  apply List.ext_getElem
  · simp
  · intro i h1 h2
    simp [List.getD, List.getElem?_eq_getElem h2]
theorem step_nodup {l : List Int} {v : Int} (h : l.Nodup) : (step_dedup l v).Nodup := by
  unfold step_dedup
  split
  · exact h
  · rename_i q
    rw [List.nodup_append]
    refine ⟨h, by simp, fun a ha b hb => ?_⟩
    rw [List.mem_singleton.mp hb]
    intro e
    subst e
    exact q (by simpa using ha)
theorem firstMet_nd (f : Nat → Int) : ∀ n, (firstMet f n).Nodup
  | 0 => by rw [firstMet_zero]; exact .nil
  | n + 1 => by rw [firstMet_succ]; exact step_nodup (firstMet_nd f n)
theorem dedupI_mem (ns : List Int) (k : Int) : k ∈ dedupI ns ↔ k ∈ ns := by
  have h := firstMet_any (fun i => ns.getD i 0) ns.length k
  rw [map_getD] at h
  have e : ∀ l : List Int, (l.any (· == k) = true) ↔ k ∈ l := fun l => by simp
  unfold dedupI
  rw [← e, ← e, h]
theorem nodup_len : ∀ {l k : List Int}, l.Nodup → (∀ x ∈ l, x ∈ k) → l.length ≤ k.length
  | [], _, _, _ => Nat.zero_le _
  | x :: l, k, h, hs => by
    have hx := hs x List.mem_cons_self
    have h' := List.nodup_cons.mp h
    have := nodup_len (k := k.erase x) h'.2 fun y hy => (List.mem_erase_of_ne fun e => h'.1 (by rw [← e]; exact hy)).mpr (hs y (List.mem_cons_of_mem _ hy))
    have e := List.length_erase_of_mem hx
    have : 0 < k.length := List.length_pos_of_mem hx
    simp only [List.length_cons]
    omega
noncomputable def tLenSetM (K : PySem.W.Frag) (ta : TE) : TE := fun σ H Q => ta σ H fun x H1 => ∃ (l : Addr) (ns : List Int), x = .ref l ∧ (SqL K H1 l (ns.map V.int) ∨ SqT K H1 l (ns.map V.int)) ∧ ns.length ≤ 1000 ∧ Q (.int ((dedupI ns).length : Nat)) H1
theorem pe_lenSetM {a : Expr} {ta : TE} {p p2 q pos : Pos} (hg : Gl X "len") (hm : X.mg "len" = none) (hg2 : Gl X "set") (hm2 : X.mg "set" = none) (ha : PE X a ta) (hc : X.calm = true)
    (na : starEach [a] X.env = (false, eval a X.env) :: starEach [] X.env) (nb : starEach [Expr.Call (.Name "set" p2) [a] [] q] X.env = (false, eval (.Call (.Name "set" p2) [a] [] q) X.env) :: starEach [] X.env) : PE X (.Call (.Name "len" p) [.Call (.Name "set" p2) [a] [] q] [] pos) (tLenSetM X.K ta) := by
  constructor
  intro pins s σ H Q I h
  refine Call_ (ld_blt I hg hm PySem.boot_len ?_)
  refine PyProof.Rows.callWith_builtin1 (PyProof.Rows.args_cons ?_ nb) nb rfl
  refine Call_ (ld_blt I hg2 hm2 PyProof.Rows.boot_set ?_)
  refine PyProof.Rows.callWith_type1 (PyProof.Rows.args_cons (thn (ha.run pins s σ H _ I h) fun v s1 ⟨x, H1, I1, r1, q1⟩ => PyProof.Rows.args_nil ?_) na) na rfl
  obtain ⟨l, ns, rfl, hq, hl, q1⟩ := q1
  cases r1
  have big : ns.length + 1 < scanBound := by unfold scanBound; omega
  rcases hq with hq | hq
  · obtain ⟨its, r, pl, hz⟩ := I1.list hq
    have lens : its.toArray.size = ns.length := by simp [← r.length]
    refine call_set_list (I1.ok.hd hc) pl.isList (by simpa using RZ.intsAre_vals r) (by rw [lens]; exact big) fun h' tk hS hk => ?_
    obtain ⟨o, es, ep, t, ho, hex, hd, _, _, _, hf, hn⟩ := hS
    refine PyProof.Rows.args_nil ?_
    rw [lens] at hn
    have le := firstMet_length_le (fun i => ns.getD i 0) ns.length
    have J : Inv X pins σ H1 { s1 with heap := h', toks := tk } := I1.kept fun b u e => hk b u (Heap.lt_size e) e
    exact call_len_set ho hex hd hf (by rw [hn]; omega) ⟨.int (dedupI ns).length, H1, J.tok _, ⟨_, by rw [hn]; rfl⟩, q1⟩
  · obtain ⟨its, r, pl, hz⟩ := I1.tuple hq
    refine call_set_tupI ns (I1.ok.hd hc) (show s1.heap.IsTuple l its.toArray from pl) (by simpa using RZ.intsAre_vals r) big fun h' tk c hS hc' hk => ?_
    obtain ⟨o, es, ep, t, ho, hex, hd, _, nd, mem, _, hf, hn, _, _⟩ := hS
    refine PyProof.Rows.args_nil ?_
    have hsz : es.size = (dedupI ns).length := by
      have e1 : es.size = (es.toList.map keyOf).length := by simp
      rw [e1]
      refine Nat.le_antisymm (nodup_len nd fun x hx => ?_) (nodup_len (firstMet_nd _ _) fun x hx => ?_)
      · exact (dedupI_mem ns x).mpr (of_decide_eq_true ((mem x).mpr hx))
      · exact (mem x).mp (decide_eq_true ((dedupI_mem ns x).mp hx))
    have J : Inv X pins σ H1 { s1 with heap := h', toks := tk } := I1.kept hk
    exact call_len_set ho hex hd hf (by omega) ⟨.int (dedupI ns).length, H1, J.tok _, ⟨_, by rw [hsz]⟩, q1⟩
theorem pm_lenSet {a : Expr} {c : CE} {p p2 q pos : Pos} (hm : X.mg "len" = none) (hm2 : X.mg "set" = none) (ha : PE X a (tM X.K cl W c)) (hc : X.calm = true) (hg : Gl X "len" := by rfl) (hg2 : Gl X "set" := by rfl)
    (na : starEach [a] X.env = (false, eval a X.env) :: starEach [] X.env := by rfl) (nb : starEach [Expr.Call (.Name "set" p2) [a] [] q] X.env = (false, eval (.Call (.Name "set" p2) [a] [] q) X.env) :: starEach [] X.env := by rfl) :
    PE X (.Call (.Name "len" p) [.Call (.Name "set" p2) [a] [] q] [] pos) (tM X.K cl W (cLenSet c)) :=
  PE.imp (pe_lenSetM hg hm hg2 hm2 ha hc na nb) fun σ H Q h => by
  obtain ⟨B, m, S, ρ, o, e, fin⟩ := h
  refine ⟨B, m, S, ρ, o, e, Fin.bind fin fun x S1 v H1 m1 s1 o1 r1 f1 => ?_⟩
  split at f1
  rotate_left
  · exact f1.elim
  rename_i ds hd
  have view : ∃ p vs, v = .ref p ∧ (SqL X.K H1 p vs ∨ SqT X.K H1 p vs) ∧ RepL X.K cl (NN B m1) H1 vs ds := by
    split at hd
    · cases hd
      obtain ⟨a, vs, rfl, e, r⟩ := asT_ok (x := .val (.tup ds)) r1 rfl
      exact ⟨a, vs, rfl, .inr e, r⟩
    · obtain ⟨a, vs, rfl, e, r⟩ := asL_ok o1 r1 hd
      exact ⟨a, vs, rfl, .inl e, r⟩
  obtain ⟨p, vs, rfl, hq, rl⟩ := view
  split at f1
  · rename_i ns hn
    split at f1
    · rename_i hz
      have := intsOf_ok rl hn
      subst this
      exact ⟨p, ns, rfl, hq, of_decide_eq_true hz, f1.here o1 (.int _)⟩
    · exact f1.elim
  · exact f1.elim
end
end T3
namespace T3
open PySem PySem.Spec PyProof.Rows L2
/-! ### two fors in one comprehension -/
abbrev Elm2 := D → Store → Option (List D × Store)
noncomputable def lcGo2 (f : Elm2) : List D → Store → Option (List D × Store)
  | [], S => some ([], S)
  | d :: r, S => match f d S with
    | some (ys, S') => (match lcGo2 f r S' with
      | some (zs, S2) => some (ys ++ zs, S2)
      | none => none)
    | none => none
noncomputable def elm2 (t : CT) (ct : CE) (ci1 : CI) (vs1 : List Nat) (t1 : CT) (ct1 ce : CE) (ρ : Slots) : Elm2 := fun d S => match t (.val d) ρ S with
  | some (ρ', S') => (match ct ρ' S' with
    | .ok (.val (.bl true)) S2 => (match ci1 ρ' S2 with
      | .ok ys S3 => lcGo (elm t1 ct1 ce (wipeR ρ' vs1)) ys S3
      | _ => none)
    | .ok (.val (.bl false)) S2 => some ([], S2)
    | _ => none)
  | none => none
noncomputable def cLc2 (fr : Bool) (vs vs1 : List Nat) (ci : CI) (t : CT) (ct : CE) (ci1 : CI) (t1 : CT) (ct1 ce : CE) : CE := fun ρ S => match ci ρ S with
  | .ok xs S1 => (match lcGo2 (elm2 t ct ci1 vs1 t1 ct1 ce (wipeR ρ vs)) xs S1 with
    | some (ds, S2) => if szOk ds.length then mkL fr ds S2 else .bad
    | none => .bad)
  | .exc e S1 => .exc e S1
  | .bad => .bad
theorem lcGo2_cons {f : Elm2} {d : D} {r : List D} {S S2 : Store} {ys : List D} (h : lcGo2 f (d :: r) S = some (ys, S2)) : ∃ us S' zs, f d S = some (us, S') ∧ lcGo2 f r S' = some (zs, S2) ∧ ys = us ++ zs := by
  unfold lcGo2 at h
  split at h
  · rename_i us S' h1
    split at h
    · rename_i zs S3 h2
      cases h
      exact ⟨us, S', zs, h1, h2, rfl⟩
    · cases h
  · cases h
section
variable {X : Cx} {cl : ClT} {W : WX}
/-- a block's state: the made list p holds acc -/
structure Blk (K : PySem.W.Frag) (cl : ClT) (B : Addr → Prop) (p : Addr) (H1 : Hp) (m1 : List Addr) (σ : L2.St) (ρ : Slots) (acc : List D) (H : Hp) (m : List Addr) (S : Store) : Prop where
  st : Step H1 m1 H m
  ok : Ok K cl (BD B p) H m S
  env : EnvOk K cl (NN (BD B p) m) H m σ ρ
  at_ : ∃ av, H p = some (.lst av) ∧ RepL K cl (NN (BD B p) m) H av acc
theorem Blk.kp {K : PySem.W.Frag} {B : Addr → Prop} {p : Addr} {H1 H H' : Hp} {m1 m m' : List Addr} {σ : L2.St} {ρ : Slots} {acc : List D} {S S' : Store} (b : Blk K cl B p H1 m1 σ ρ acc H m S) (s : Step H m H' m') : Kp (NN (BD B p) m) (NN (BD B p) m') H H' := s.kp fun a h => (b.ok.foreign a h).2
theorem Blk.step {K : PySem.W.Frag} {B : Addr → Prop} {p : Addr} {H1 H H' : Hp} {m1 m m' : List Addr} {σ : L2.St} {ρ : Slots} {acc : List D} {S S' : Store} (b : Blk K cl B p H1 m1 σ ρ acc H m S) (s : Step H m H' m') (o : Ok K cl (BD B p) H' m' S') : Blk K cl B p H1 m1 σ ρ acc H' m' S' := by
  obtain ⟨av, e, r⟩ := b.at_
  exact ⟨b.st.trans s, o, s.env b.ok b.env, av, s.kept p _ e (b.ok.foreign p (.inr rfl)).2, r.mono (b.kp (S' := S') s)⟩
theorem Blk.slots {K : PySem.W.Frag} {B : Addr → Prop} {p : Addr} {H1 H : Hp} {m1 m : List Addr} {σ σ' : L2.St} {ρ ρ' : Slots} {acc : List D} {S : Store} (b : Blk K cl B p H1 m1 σ ρ acc H m S) (e : EnvOk K cl (NN (BD B p) m) H m σ' ρ') : Blk K cl B p H1 m1 σ' ρ' acc H m S := ⟨b.st, b.ok, e, b.at_⟩
theorem Blk.push {K : PySem.W.Frag} {B : Addr → Prop} {p : Addr} {H1 H : Hp} {m1 m : List Addr} {σ : L2.St} {ρ : Slots} {acc : List D} {S : Store} {v : V} {y : D} {av : List V} (hp : H1 p = none) (b : Blk K cl B p H1 m1 σ ρ acc H m S) (r : Rep K cl (NN (BD B p) m) H v y) (e : H p = some (.lst av)) :
    Blk K cl B p H1 m1 σ ρ (acc ++ [y]) (upd H p (.lst (av ++ [v]))) m S ∧ Kp (NN (BD B p) m) (NN (BD B p) m) H (upd H p (.lst (av ++ [v]))) := by
  have kg : Kp (NN (BD B p) m) (NN (BD B p) m) H (upd H p (.lst (av ++ [v]))) := kp_at (.inl (.inr rfl)) fun b hb => upd_ne hb
  obtain ⟨av', e', ra⟩ := b.at_
  rw [e] at e'
  cases e'
  refine ⟨⟨⟨b.st.ext, fun a z hz hn nt => ?_, fun a hn => ?_⟩, b.ok.grow e, b.env.mono kg ⟨[], by simp⟩, _, upd_same, (ra.append (.cons r .nil)).mono kg⟩, kg⟩
  · rw [upd_ne fun q => by rw [q, hp] at hz; cases hz]; exact b.st.keep a z hz hn nt
  · by_cases q : a = p
    · rw [q, upd_same]; exact fun z => by cases z
    · rw [upd_ne q]; exact b.st.stay a hn
theorem elm_some {t : CT} {ct ce : CE} {ρ : Slots} {d : D} {S S' : Store} {w : Option D} (h : elm t ct ce ρ d S = some (w, S')) : ∃ ρ4 S4, t (.val d) ρ S = some (ρ4, S4) ∧ ((∃ y S5, w = some y ∧ ct ρ4 S4 = .ok (.val (.bl true)) S5 ∧ ce ρ4 S5 = .ok (.val y) S') ∨ (w = none ∧ ct ρ4 S4 = .ok (.val (.bl false)) S')) := by
  unfold elm at h
  split at h
  · rename_i ρ4 S4 h1
    refine ⟨ρ4, S4, h1, ?_⟩
    split at h
    · rename_i S5 h2
      split at h
      · rename_i y S6 h3
        cases h
        exact .inl ⟨y, S5, rfl, h2, h3⟩
      · cases h
    · rename_i S5 h2
      cases h
      exact .inr ⟨rfl, h2⟩
    · cases h
  · cases h
theorem elm2_some {t : CT} {ct : CE} {ci1 : CI} {vs1 : List Nat} {t1 : CT} {ct1 ce : CE} {ρ : Slots} {d : D} {S S' : Store} {w : List D} (h : elm2 t ct ci1 vs1 t1 ct1 ce ρ d S = some (w, S')) :
    ∃ ρ4 S4, t (.val d) ρ S = some (ρ4, S4) ∧ ((∃ S5 ys S6, ct ρ4 S4 = .ok (.val (.bl true)) S5 ∧ ci1 ρ4 S5 = .ok ys S6 ∧ lcGo (elm t1 ct1 ce (wipeR ρ4 vs1)) ys S6 = some (w, S')) ∨ (w = [] ∧ ct ρ4 S4 = .ok (.val (.bl false)) S')) := by
  unfold elm2 at h
  split at h
  · rename_i ρ4 S4 h1
    refine ⟨ρ4, S4, h1, ?_⟩
    split at h
    · rename_i S5 h2
      split at h
      · rename_i ys S6 h3
        exact .inl ⟨S5, ys, S6, h2, h3, h⟩
      · cases h
    · rename_i S5 h2
      cases h
      exact .inr ⟨rfl, h2⟩
    · cases h
  · cases h
theorem tLc2_ok {fr : Bool} {vs vs1 : List Nat} {ci ci1 : CI} {g g1 : TG} {t t1 : CT} {ct ct1 ce : CE} (hv : ∀ i ∈ vs1, i ∈ vs) (hg : TgC X.K cl vs g t) (hg1 : TgC X.K cl vs1 g1 t1) {tt tt1 : TT} (htt : ∀ σ H Q, tMT X.K cl W0 ct σ H Q → tt σ H Q) (htt1 : ∀ σ H Q, tMT X.K cl W0 ct1 σ H Q → tt1 σ H Q)
    {σ : L2.St} {H : Hp} {Q : VK} (h : tM X.K cl W (cLc2 fr vs vs1 ci t ct ci1 t1 ct1 ce) σ H Q) : tLc2 (tMI X.K cl W ci) g tt (tMI X.K cl W0 ci1) g1 tt1 (tM X.K cl W0 ce) vs vs1 σ H Q := by
  obtain ⟨B, m, S, ρ, o, e, fin⟩ := h
  refine ⟨B, m, S, ρ, o, e, ?_⟩
  unfold cLc2 at fin
  cases hi : ci ρ S with
  | bad => rw [hi] at fin; exact fin
  | exc e' S' => rw [hi] at fin; exact fin
  | ok xs S1 =>
    rw [hi] at fin
    dsimp only at fin
    split at fin
    rotate_left
    · exact fin.elim
    rename_i ds S2 hgo
    split at fin
    rotate_left
    · exact fin.elim
    rename_i hz
    have hz : ds.length ≤ 16000000 := of_decide_eq_true hz
    intro J live H1 m1 s1 o1 l1 src D hD
    have fin1 := Fin.step s1 fin
    have hB : ¬ B D := fun z => (o1.foreign D z).1 hD
    have e1 := s1.env o e
    have b1 : Blk X.K cl B D H1 m1 σ ρ [] (upd H1 D (.lst [])) m1 S1 := ⟨Step.new hD, o1.born hD, e1.mono (Kp.born hD) ⟨[], by simp⟩, [], upd_same, .nil⟩
    refine ⟨fun i n H => n = xs.length - i ∧ i ≤ xs.length ∧ ∃ m S acc rest, Blk X.K cl B D H1 m1 σ ρ acc H m S ∧ live (NN (BD B D) m) H ∧ lcGo2 (elm2 t ct ci1 vs1 t1 ct1 ce (wipeR ρ vs)) (xs.drop i) S = some (rest, S2) ∧ ds = acc ++ rest,
      ⟨xs.length, by simp, Nat.zero_le _, m1, S1, [], ds, b1, src.keep l1 (Kp.born hD), hgo, rfl⟩, ?_⟩
    rintro i n H2 ⟨rfl, hle, m2, S3, acc, rest, b2, l2, go2, eds⟩
    by_cases hlt : i < xs.length
    · refine .inr ⟨src.go i l2 hlt, fun H => i + 1 ≤ xs.length ∧ ∃ m S acc rest, Blk X.K cl B D H1 m1 σ ρ acc H m S ∧ live (NN (BD B D) m) H ∧ lcGo2 (elm2 t ct ci1 vs1 t1 ct1 ce (wipeR ρ vs)) (xs.drop (i + 1)) S = some (rest, S2) ∧ ds = acc ++ rest,
        fun H' hn => ⟨xs.length - (i + 1), by omega, rfl, hn⟩, fun y H3 hy => ?_⟩
      obtain ⟨d, hd, s3, o3, r3⟩ := src.yld i b2.ok l2 hy
      have hd := hd hlt
      rw [List.drop_eq_getElem_cons hlt] at go2
      rw [List.getElem?_eq_getElem hlt] at hd
      cases hd
      have l3 := src.step b2.ok l2 s3
      have b3 := b2.step s3 o3
      obtain ⟨us, S', zs, h1, h2, rfl⟩ := lcGo2_cons go2
      obtain ⟨ρ4, S4, ht, he⟩ := elm2_some h1
      refine hg (x := .val xs[i]) o3 (b3.env.wipe vs) r3 ht fun σ4 w4 eS e4 => ⟨w4.trans (wipe_wipe fun i h => h), ?_⟩
      subst eS
      rcases he with ⟨S5, ys, S6, hc, hy1, hin⟩ | ⟨rfl, hc⟩
      rotate_left
      · refine htt _ _ _ ⟨BD B D, m2, S4, ρ4, o3, e4, ?_⟩
        rw [hc]
        intro H5 m5 s5 o5
        exact iteF ⟨hlt, m5, S', acc, zs, b3.step s5 o5, src.step o3 l3 s5, h2, by simpa using eds⟩
      refine htt _ _ _ ⟨BD B D, m2, S4, ρ4, o3, e4, ?_⟩
      rw [hc]
      intro H5 m5 s5 o5
      have b5 := b3.step s5 o5
      have l5 := src.step o3 l3 s5
      have e5 := s5.env o3 e4
      refine iteT ⟨BD B D, m5, S5, ρ4, o5, e5, ?_⟩
      rw [hy1]
      intro J1 live1 H6 m6 s6 o6 l6 src1
      have b6 := b5.step s6 o6
      have l6' := src.step o5 l5 s6
      have e6 := s6.env o5 e5
      -- the inner walk
      refine ⟨fun j k H => k = ys.length - j ∧ j ≤ ys.length ∧ ∃ m S acc' rest', Blk X.K cl B D H1 m1 σ ρ acc' H m S ∧ EnvOk X.K cl (NN (BD B D) m) H m σ4 ρ4 ∧ live (NN (BD B D) m) H ∧ live1 (NN (BD B D) m) H ∧
          lcGo (elm t1 ct1 ce (wipeR ρ4 vs1)) (ys.drop j) S = some (rest', S') ∧ acc' ++ rest' = acc ++ us,
        ⟨ys.length, by simp, Nat.zero_le _, m6, S6, acc, us, b6, e6, l6', l6, hin, rfl⟩, ?_⟩
      rintro j k H7 ⟨rfl, hle1, m7, S7, acc7, rest7, b7, e7, l7, k7, go7, eq7⟩
      by_cases hlt1 : j < ys.length
      · refine .inr ⟨src1.go j k7 hlt1, fun H => j + 1 ≤ ys.length ∧ ∃ m S acc' rest', Blk X.K cl B D H1 m1 σ ρ acc' H m S ∧ EnvOk X.K cl (NN (BD B D) m) H m σ4 ρ4 ∧ live (NN (BD B D) m) H ∧ live1 (NN (BD B D) m) H ∧
            lcGo (elm t1 ct1 ce (wipeR ρ4 vs1)) (ys.drop (j + 1)) S = some (rest', S') ∧ acc' ++ rest' = acc ++ us, fun H' hn => ⟨ys.length - (j + 1), by omega, rfl, hn⟩, fun z H8 hz8 => ?_⟩
        obtain ⟨d8, hd8, s8, o8, r8⟩ := src1.yld j b7.ok k7 hz8
        have hd8 := hd8 hlt1
        rw [List.drop_eq_getElem_cons hlt1] at go7
        rw [List.getElem?_eq_getElem hlt1] at hd8
        cases hd8
        have b8 := b7.step s8 o8
        have e8 := s8.env b7.ok e7
        have l8 := src.step b7.ok l7 s8
        have k8 := src1.step b7.ok k7 s8
        have fin8 : ∀ (w : Option _) (S9 : Store) (rest9 : List T3.D), elm t1 ct1 ce (wipeR ρ4 vs1) ys[j] S7 = some (w, S9) → lcGo (elm t1 ct1 ce (wipeR ρ4 vs1)) (ys.drop (j + 1)) S9 = some (rest9, S') → acc7 ++ (w.toList ++ rest9) = acc ++ us →
            g1 z (wipe σ4 vs1) H8 fun σ3 H5 => wipe σ3 vs1 = wipe σ4 vs1 ∧ tt1 σ3 H5 fun b H6 =>
              if b = true then tM X.K cl W0 ce σ3 H6 fun y H7 => ∃ acc', H7 D = some (.lst acc') ∧ acc'.length < sizeLine ∧ (fun H => j + 1 ≤ ys.length ∧ ∃ m S acc' rest', Blk X.K cl B D H1 m1 σ ρ acc' H m S ∧ EnvOk X.K cl (NN (BD B D) m) H m σ4 ρ4 ∧ live (NN (BD B D) m) H ∧ live1 (NN (BD B D) m) H ∧
                lcGo (elm t1 ct1 ce (wipeR ρ4 vs1)) (ys.drop (j + 1)) S = some (rest', S') ∧ acc' ++ rest' = acc ++ us) (upd H7 D (.lst (acc' ++ [y]))) else (fun H => j + 1 ≤ ys.length ∧ ∃ m S acc' rest', Blk X.K cl B D H1 m1 σ ρ acc' H m S ∧ EnvOk X.K cl (NN (BD B D) m) H m σ4 ρ4 ∧ live (NN (BD B D) m) H ∧ live1 (NN (BD B D) m) H ∧
                lcGo (elm t1 ct1 ce (wipeR ρ4 vs1)) (ys.drop (j + 1)) S = some (rest', S') ∧ acc' ++ rest' = acc ++ us) H6 := by
          intro w S9 rest9 hw hgo9 heq9
          obtain ⟨ρ9, S10, ht9, he9⟩ := elm_some hw
          refine hg1 (x := .val ys[j]) o8 (e8.wipe vs1) r8 ht9 fun σ9 w9 eS9 e9 => ⟨w9.trans (wipe_wipe fun i h => h), ?_⟩
          subst eS9
          rcases he9 with ⟨y9, S11, rfl, hc9, hv9⟩ | ⟨rfl, hc9⟩
          · refine htt1 _ _ _ ⟨BD B D, m7, _, ρ9, o8, e9, ?_⟩
            rw [hc9]
            intro Ha ma sa oa
            refine iteT ⟨BD B D, ma, S11, ρ9, oa, sa.env o8 e9, ?_⟩
            rw [hv9]
            intro u Hb mb sb ob rb
            have sab := sa.trans sb
            have bb := b8.step sab ob
            obtain ⟨av, ea, ra⟩ := bb.at_
            obtain ⟨bp, kg⟩ := bb.push hD rb ea
            have hlen : av.length < sizeLine := by
              rw [ra.length]
              have := congrArg List.length heq9
              simp only [List.length_append, Option.toList_some, List.length_cons, List.length_nil] at this
              rw [eds, List.length_append, List.length_append] at hz
              exact Nat.lt_of_lt_of_le (by omega : acc7.length < 16000000) (by decide)
            exact ⟨av, ea, hlen, hlt1, mb, S9, acc7 ++ [y9], rest9, bp, (sab.env o8 e8).mono kg ⟨[], by simp⟩, src.keep (src.step o8 l8 sab) kg, src1.keep (src1.step o8 k8 sab) kg, hgo9, by simpa using heq9⟩
          · refine htt1 _ _ _ ⟨BD B D, m7, _, ρ9, o8, e9, ?_⟩
            rw [hc9]
            intro Ha ma sa oa
            exact iteF ⟨hlt1, ma, S9, acc7, rest9, b8.step sa oa, sa.env o8 e8, src.step o8 l8 sa, src1.step o8 k8 sa, hgo9, by simpa using heq9⟩
        rcases lcGo_cons go7 with ⟨y, Sx, zz, h1, h2, rfl⟩ | ⟨Sx, h1, h2⟩
        · exact fin8 (some y) Sx zz h1 h2 eq7
        · exact fin8 none Sx rest7 h1 h2 eq7
      · have hj : j = ys.length := by omega
        subst hj
        rw [List.drop_length] at go7
        cases go7
        rw [List.append_nil] at eq7
        exact .inl ⟨src1.stop k7, hlt, m7, _, acc7, zs, b7, l7, h2, by rw [eds, eq7, List.append_assoc]⟩
    · have hi : i = xs.length := by omega
      subst hi
      rw [List.drop_length] at go2
      cases go2
      rw [List.append_nil] at eds
      subst eds
      obtain ⟨av, ea, ra⟩ := b2.at_
      exact .inl ⟨src.stop l2, born_end hD b2.st b2.ok ea ra hB fin1⟩
theorem pm_lc2 (fr : Bool) {elt tg iter tg1 iter1 : Expr} {ifs ifs1 : List Expr} {scope : Scope} {own : List (Str × Nat)} {vs1 : List Nat} {pos : Pos} {ci ci1 : CI} {g g1 : TG} {t t1 : CT} {ct ct1 ce : CE} {tt tt1 : TT} (hc : X.calm = true) (hN : X.N.Nodup) (hi : PI X tg iter (tMI X.K cl W ci)) (ok : BlkOk X.N X.env.scope scope own) (hv : ∀ i ∈ vs1, i ∈ own.map (·.2))
    (hg : ∀ (s : Shared) (H : Hp) (C : Addr) (cl' : List (Str × Addr)) (fp : List Addr), PG (X.blk s H scope (compEnvC scope cl' C X.env) fp) tg g) (hgo : TgC X.K cl (own.map (·.2)) g t)
    (ht : ∀ (s : Shared) (H : Hp) (C : Addr) (cl' : List (Str × Addr)) (fp : List Addr), PTs (X.blk s H scope (compEnvC scope cl' C X.env) fp) ifs tt) (hto : ∀ σ H Q, tMT X.K cl W0 ct σ H Q → tt σ H Q)
    (hi1 : ∀ (s : Shared) (H : Hp) (C : Addr) (cl' : List (Str × Addr)) (fp : List Addr), PI (X.blk s H scope (compEnvC scope cl' C X.env) fp) tg1 iter1 (tMI X.K cl W0 ci1))
    (hg1 : ∀ (s : Shared) (H : Hp) (C : Addr) (cl' : List (Str × Addr)) (fp : List Addr), PG (X.blk s H scope (compEnvC scope cl' C X.env) fp) tg1 g1) (hgo1 : TgC X.K cl vs1 g1 t1)
    (ht1 : ∀ (s : Shared) (H : Hp) (C : Addr) (cl' : List (Str × Addr)) (fp : List Addr), PTs (X.blk s H scope (compEnvC scope cl' C X.env) fp) ifs1 tt1) (hto1 : ∀ σ H Q, tMT X.K cl W0 ct1 σ H Q → tt1 σ H Q)
    (he : ∀ (s : Shared) (H : Hp) (C : Addr) (cl' : List (Str × Addr)) (fp : List Addr), PE (X.blk s H scope (compEnvC scope cl' C X.env) fp) elt (tM X.K cl W0 ce)) (hs : ∀ x, foldedSetIterable iter X.env x = pure x := by intro _; rfl) (hs1 : ∀ env x, foldedSetIterable iter1 env x = pure x := by intro _ _; rfl) :
    PE X (.ListComp elt [⟨tg, iter, ifs, 0⟩, ⟨tg1, iter1, ifs1, 0⟩] scope pos) (tM X.K cl W (cLc2 fr (own.map (·.2)) vs1 ci t ct ci1 t1 ct1 ce)) := PE.imp (pe_lc2 hc hN hi ok hv hg ht hi1 hg1 ht1 he hs hs1) fun _ _ _ h => tLc2_ok hv hgo hgo1 hto hto1 h
theorem pm_setLc2 (fr : Bool) (i : Nat) {y : Str} {py : Pos} {elt tg iter tg1 iter1 : Expr} {ifs ifs1 : List Expr} {scope : Scope} {own : List (Str × Nat)} {vs1 : List Nat} {pos spos : Pos} {ci ci1 : CI} {g g1 : TG} {t t1 : CT} {ct ct1 ce : CE} {tt tt1 : TT} (hc : X.calm = true) (hN : X.N.Nodup)
    (hsw : swapsWith (.ListComp elt [⟨tg, iter, ifs, 0⟩, ⟨tg1, iter1, ifs1, 0⟩] scope pos) (some (.Name y py)) spos.line X.env = pure true) (hi : PI X tg iter (tMI X.K cl W ci)) (ok : BlkOk X.N X.env.scope scope own) (hv : ∀ i ∈ vs1, i ∈ own.map (·.2))
    (hg : ∀ (s : Shared) (H : Hp) (C : Addr) (cl' : List (Str × Addr)) (fp : List Addr), PG (X.blk s H scope (compEnvC scope cl' C X.env) fp) tg g) (hgo : TgC X.K cl (own.map (·.2)) g t)
    (ht : ∀ (s : Shared) (H : Hp) (C : Addr) (cl' : List (Str × Addr)) (fp : List Addr), PTs (X.blk s H scope (compEnvC scope cl' C X.env) fp) ifs tt) (hto : ∀ σ H Q, tMT X.K cl W0 ct σ H Q → tt σ H Q)
    (hi1 : ∀ (s : Shared) (H : Hp) (C : Addr) (cl' : List (Str × Addr)) (fp : List Addr), PI (X.blk s H scope (compEnvC scope cl' C X.env) fp) tg1 iter1 (tMI X.K cl W0 ci1))
    (hg1 : ∀ (s : Shared) (H : Hp) (C : Addr) (cl' : List (Str × Addr)) (fp : List Addr), PG (X.blk s H scope (compEnvC scope cl' C X.env) fp) tg1 g1) (hgo1 : TgC X.K cl vs1 g1 t1)
    (ht1 : ∀ (s : Shared) (H : Hp) (C : Addr) (cl' : List (Str × Addr)) (fp : List Addr), PTs (X.blk s H scope (compEnvC scope cl' C X.env) fp) ifs1 tt1) (hto1 : ∀ σ H Q, tMT X.K cl W0 ct1 σ H Q → tt1 σ H Q)
    (he : ∀ (s : Shared) (H : Hp) (C : Addr) (cl' : List (Str × Addr)) (fp : List Addr), PE (X.blk s H scope (compEnvC scope cl' C X.env) fp) elt (tM X.K cl W0 ce)) (hs : ∀ x, foldedSetIterable iter X.env x = pure x := by intro _; rfl) (hs1 : ∀ env x, foldedSetIterable iter1 env x = pure x := by intro _ _; rfl)
    (hy : X.N[i]? = some y := by rfl) (hyl : X.env.scope.names.lookup y = some .local := by rfl) :
    PS X (.Assign [.Name y py] (.ListComp elt [⟨tg, iter, ifs, 0⟩, ⟨tg1, iter1, ifs1, 0⟩] scope pos) spos) (tMS X.K cl W (sAsg (tgName i) (cLc2 fr (own.map (·.2)) vs1 ci t ct ci1 t1 ct1 ce))) :=
  PS.imp (ps_setLc2 hc hN hy hyl hsw hi ok hv hg ht hi1 hg1 ht1 he hs hs1) fun E σ H h => by
  obtain ⟨B, m, S, ρ, o, e, fin⟩ := h
  refine tLc2_ok hv hgo hgo1 hto hto1 ⟨B, m, S, ρ, o, e, FinS.bind o e fin fun x S1 v H1 m1 s1 o1 e1 r1 f1 => ?_⟩
  exact f1 _ H1 m1 Step.refl o1 (e1.set i r1)
end
end T3
namespace T3
open PySem PySem.Spec PyProof.Rows L2
/-! ### a, b = e, f -/
noncomputable def sPar (i j : Nat) (c : CA) : CS := fun ρ S => match c ρ S with
  | .ok [x, y] S1 => .nx ((ρ.set i (some x)).set j (some y)) S1
  | .ok _ _ => .bad
  | .exc e S1 => .exc e ρ S1
  | .bad => .bad
section
variable {X : Cx} {cl : ClT} {W : WX}
theorem pm_par (i j : Nat) {x y : Str} {a b : Expr} {c : CA} {px py pt pos : Pos} {kt k2 pt2} (hc : X.calm = true) (hN : X.N.Nodup) (ha : PA X [a, b] (tML X.K cl W c)) (hij : i ≠ j := by decide) (hi : X.N[i]? = some x := by rfl) (hj : X.N[j]? = some y := by rfl)
    (hx : X.env.scope.names.lookup x = some .local := by rfl) (hy : X.env.scope.names.lookup y = some .local := by rfl) (hw : swappedStores [.Tuple [.Name x px, .Name y py] kt pt] (.Tuple [a, b] k2 pt2) X.env = pure (some [x, y]) := by rfl)
    (hs : swapsWithSole [.Tuple [.Name x px, .Name y py] kt pt] (.Tuple [a, b] k2 pt2) pos.line X.env = pure false := by rfl) :
    PS X (.Assign [.Tuple [.Name x px, .Name y py] kt pt] (.Tuple [a, b] k2 pt2) pos) (tMS X.K cl W (sPar i j c)) := PS.imp (ps_par hc hN hi hj hij hx hy ha hw hs) fun E σ H h => by
  obtain ⟨B, m, S, ρ, o, e, fin⟩ := h
  refine ⟨B, m, S, ρ, o, e, ?_⟩
  unfold sPar at fin
  cases hr : c ρ S with
  | bad => rw [hr] at fin; exact fin
  | exc e' S1 => rw [hr] at fin; exact fun c d H' m' s' o' x' => fin c d σ H' m' s' o' (s'.env o e) x'
  | ok xs S1 =>
    rw [hr] at fin
    intro vs H1 m1 s1 o1 r1
    match xs, fin, r1 with
    | [x, y], fin, r1 =>
      obtain ⟨v, w, rfl, q1, q2⟩ := two_args r1
      exact ⟨v, w, rfl, fin _ H1 m1 s1 o1 (((s1.env o e).set i q1).set j q2)⟩
/-! ### a module's constants -/
theorem pm_g {x : Str} {v : V} {d : D} {pos : Pos} (h : ∃ u, X.mg x = some u ∧ RelV v u) (r : ∀ N H, Rep X.K cl N H v d) (hg : Gl X x := by rfl) (hd : (x == ("__debug__" : Str)) = false := by decide) : PE X (.Name x pos) (tM X.K cl W (cK d)) := by
  obtain ⟨u, h1, h2⟩ := h
  exact pm_c (pe_glob hg h1 h2 hd) r
/-- a def of the text as the top leaves it -/
noncomputable def DefAt (K : PySem.W.Frag) (mg : Str → Option Value) (nm : Str) (st : Stmt) (ps : List Str) : Prop := ∃ (fa : Addr) (fd : FuncData), mg nm = some (.ref fa) ∧ Fun K nm nm st fa fd ∧ Binds K fd ps []
noncomputable def KeyAt (K : PySem.W.Frag) (mg : Str → Option Value) (nm : Str) (st : Stmt) (ps ks : List Str) (perm : List Nat) : Prop := ∃ (fa : Addr) (fd : FuncData), mg nm = some (.ref fa) ∧ Fun K nm nm st fa fd ∧ KB K fd ps ks perm
end
section
variable {P : Program} {w : World} {K : PySem.W.Frag} {mg : Str → Option Value} {base : Heap} {cl : ClT}
theorem defM {nm : Str} {st : Stmt} {N ps : List Str} {k n : Nat} {b : CS} (D : DefAt K mg nm st ps) (S : FnScope N ps (defScope st)) (hn : ps.length = n)
    (body : ∀ (fa : Addr) (cdv : Value) (A : Around) (outer : List Env) (s : Shared) (H : Hp) (E : XK),
      (A.deeper (envOfC nm (defScope st) s.heap.objs.size fa cdv)).guards = some [] → Room k (A.deeper (envOfC nm (defScope st) s.heap.objs.size fa cdv)) →
      Takes (cxOf (L2.CX P w) P w K mg base N nm (defScope st) fa cdv A outer s H E) (fun c d _ H => E c d H) →
      PSs (cxOf (L2.CX P w) P w K mg base N nm (defScope st) fa cdv A outer s H E) (defBody st) (tMS K cl (fun c d _ H => E c d H) b)) :
    CalG P w K mg base cl (k + 1) nm n (runF N.length b) := by
  obtain ⟨fa, fd, hm, F, hb⟩ := D
  subst hn
  exact ⟨fa, fd, ps, hm, F.kp, hb, rfl, fnM F S (body fa)⟩
/-- by keywords: the same def -/
theorem keyM {nm : Str} {st : Stmt} {ps ks : List Str} {perm : List Nat} {j n : Nat} {f : Fn} (C : CalG P w K mg base cl j nm n f) (D : KeyAt K mg nm st ps ks perm) (hfd : ∀ fa fd ps', mg nm = some (.ref fa) → FnG P w K mg base j fa fd ps' (spF K cl n f) → ∀ fd', Fun K nm nm st fa fd' → fd = fd' ∧ ps' = ps) : CalK P w K mg base cl j nm n f ks perm := by
  obtain ⟨fa, fd, hm, F, hb⟩ := D
  obtain ⟨fa', fd', ps', hm', hk, _, _, G⟩ := C.ex
  rw [hm] at hm'
  cases hm'
  obtain ⟨e1, e2⟩ := hfd _ _ _ hm G fd F
  subst e1 e2
  exact ⟨_, _, _, hm, hk, hb, G⟩
end
end T3
namespace T3
open PySem PySem.Spec PyProof.Rows L2
/-! ### the law's end -/
/-- what the law's def tells of a script -/
noncomputable def LawSays (f : Fn) : Prop := ∀ ns : List Int, ns.length ≤ 63 → ∃ S, f [.val (.ro (ns.map D.int))] [] = .ok (.val (.bl true)) S
theorem repl_ints {K : PySem.W.Frag} {cl : ClT} {N : Addr → Prop} {H : Hp} : ∀ ns : List Int, RepL K cl N H (ns.map V.int) (ns.map D.int)
  | [] => .nil
  | n :: r => .cons (.int n) (repl_ints r)
theorem ok_nil {K : PySem.W.Frag} {cl : ClT} {H : Hp} (t : LamX.Tabs cl.T H) : Ok K cl (fun _ => False) H [] [] :=
  ⟨fun _ h => h.elim, rfl, List.nodup_nil, fun i a o h => by simp at h, t⟩
theorem spLaw {K : PySem.W.Frag} {cl : ClT} {f : Fn} (L : LawSays f) (H : Hp) (a : Addr) (ns : List Int) (hl : ns.length ≤ 63) (hS : SqL K H a (ns.map V.int)) (ht : LamX.Tabs cl.T H) :
    spF K cl 1 f [.ref a] H (fun v _ => v = V.bl true) fun _ _ _ => False := by
  obtain ⟨S, e⟩ := L ns hl
  have hq : RoAt K (NN (fun _ => False) []) H a (ns.map V.int) := by
    rcases hS with h | h
    · exact .inl ⟨h, fun z => by rcases z with z | z; exact z; simp at z⟩
    · exact .inr h
  refine ⟨rfl, fun _ => False, [], [], _, ok_nil ht, .cons (show RepA K cl _ H [] (.ref a) (.val (.ro (ns.map D.int))) from .ro hq (repl_ints ns)) .nil, ?_⟩
  rw [e]
  intro v H' m' _ _ r
  cases r
  rfl
section
variable {P : Program} {w : World} {K : PySem.W.Frag} {mg mb : Str → Option Value} {k : Nat} {fa a : Addr} {fd : FuncData} {x : Str} {sp : Sp} {s₁ : Shared} {vs : List Value} {ns : List Int}
/-- from a heap in which at most the script is seen -/
theorem law_coreG (KX : K.In s₁.heap) (hns : s₁.heap.Ns mainGlobals mg) (hb : s₁.heap.Ns builtinsNs mb) (hbb : ∀ y : Str, y ≠ "__name__" → mb y = bootBuiltins y) (hlim : s₁.heap.NoLimit)
    (hg : s₁.gens = #[]) (ha : s₁.heap.get? a = some { cls := .type "list", data := .seq vs.toArray }) (hr : Room k callerA)
    (F : ∀ b : Heap, K.In b → b.Ns mainGlobals mg → FnG P w K mg b k fa fd [x] sp) (hbind : ∀ (s : Shared) (u : Value), BindsTo s fd ⟨[u], []⟩ [(x, u)])
    (H : Hp) (hO : Only H) (hok : HOk P w H s₁.heap) (hA : ∀ b, H b ≠ none → b = a) (hK : H a ≠ none → K.lookup a = none) (hsp : sp [.ref a] H (fun v _ => v = V.bl true) fun _ _ _ => False) :
    codeAny (model P w) callerA (.call (.ref fa) ⟨[.ref a], []⟩) (fun r s' => r = .ok (.ret (.bool true)) ∧ OldK s₁.heap s'.heap ∧ s'.os = s₁.os ∧ AllBare s'.gens) s₁ := by
  -- an object that is no list is not seen
  have unseen : ∀ {b : Addr} {o : Obj}, s₁.heap.get? b = some o → o.data ≠ .seq vs.toArray 0 → H b = none := by
    intro b o e d
    cases q : H b with
    | none => rfl
    | some u =>
      have := hA b (by rw [q]; exact fun z => by cases z)
      subst this
      rw [ha] at e
      cases e
      exact absurd rfl d
  have nsK : ∀ {b : Addr} {m : Str → Option Value}, s₁.heap.Ns b m → (hidT s₁.heap H).Ns b m := by
    rintro b m ⟨o, es, ep, e, d, r⟩
    exact ⟨o, es, ep, hidT_get e (unseen e (by rw [d]; exact fun z => by cases z)), d, r⟩
  have hKb : K.In (hidT s₁.heap H) := by
    intro b o e
    refine hidT_get (KX b o e) ?_
    cases q : H b with
    | none => rfl
    | some u =>
      have := hA b (by rw [q]; exact fun z => by cases z)
      subst this
      have z := hK (by rw [q]; exact fun z => by cases z)
      rw [z] at e
      cases e
  obtain ⟨mc, l1, l2⟩ := hlim
  have hM : Mod K mg (hidT s₁.heap H) := ⟨hKb, nsK hns, ⟨mb, nsK hb, hbb⟩, ⟨mc, nsK l1, l2⟩⟩
  have e0 : Env0 P w K mg (hidT s₁.heap H) callerA [] s₁ H := ⟨rfl, hM, fun b o => of_hidT, Nat.le_of_eq (hidT_size _ _), trivial, fun b (hb : b ∈ ([] : List Addr)) => by simp at hb, hok, .of_eq hg⟩
  have run := (F _ hKb (nsK hns)).run (A := callerA) (outer := []) (s := s₁) (H := H) (args := ⟨[.ref a], []⟩) (us := [.ref a]) (vs := [.ref a]) rfl hr e0 (hbind s₁ (.ref a)) (.cons rfl .nil) hsp
  refine codeAny_mono run fun r s' h => ?_
  match r, h with
  | .error e, h => obtain ⟨_, _, _, _, _, _, _, _, _, _, _, _, z⟩ := h; exact z.elim
  | .ok .next, h => exact h.elim
  | .ok .brk, h => exact h.elim
  | .ok .cont, h => exact h.elim
  | .ok (.ret u), h =>
    obtain ⟨v, H', os, bare, un, hok', r', q⟩ := h
    cases (show v = V.bl true from q)
    obtain rfl : u = Value.bool true := r'
    refine ⟨rfl, OldK.of_keep fun b o e => ?_, os, bare⟩
    rcases hO b with z | ⟨ob, xs, z⟩
    · exact un.keep b o e z (fun z => List.not_mem_nil (show b ∈ ([] : List Addr) from z)) (by simp)
    · have e1 := (hok b _ z).1
      have e2 := (hok' b _ (un.frzs b ob _ z)).1
      rw [e] at e1
      cases e1
      exact e2
theorem law_callG (KX : K.In s₁.heap) (hns : s₁.heap.Ns mainGlobals mg) (hb : s₁.heap.Ns builtinsNs mb) (hbb : ∀ y : Str, y ≠ "__name__" → mb y = bootBuiltins y) (hlim : s₁.heap.NoLimit)
    (hg : s₁.gens = #[]) (ha : s₁.heap.get? a = some { cls := .type "list", data := .seq vs.toArray }) (hi : IntsAre vs ns) (hl : ns.length ≤ sizeLine) (hr : Room k callerA)
    (F : ∀ b : Heap, K.In b → b.Ns mainGlobals mg → FnG P w K mg b k fa fd [x] sp) (hbind : ∀ (s : Shared) (u : Value), BindsTo s fd ⟨[u], []⟩ [(x, u)])
    (hsp : ∀ H : Hp, SqL K H a (ns.map V.int) → sp [.ref a] H (fun v _ => v = V.bl true) fun _ _ _ => False) :
    codeAny (model P w) callerA (.call (.ref fa) ⟨[.ref a], []⟩) (fun r s' => r = .ok (.ret (.bool true)) ∧ OldK s₁.heap s'.heap ∧ s'.os = s₁.os ∧ AllBare s'.gens) s₁ := by
  have rv := vals_ints hi
  cases hk : K.lookup a with
  | some o =>
    have e := (KX a o hk).symm.trans ha
    cases e
    refine law_coreG KX hns hb hbb hlim hg ha hr F hbind (fun _ => none) (fun _ => .inl rfl) (fun b u z => ?_) (fun b z => absurd rfl z) (fun z => absurd rfl z) (hsp _ (.inr ⟨_, vs.toArray, _, hk, rfl, rfl, rfl, ?_, by simpa using rv⟩))
    · cases (show (none : Option HO) = some u from z)
    · rw [List.size_toArray, hi.length]
      exact hl
  | none =>
    let H : Hp := fun b => if b = a then some (.frz { cls := .type "list", data := .seq vs.toArray } (.lst (ns.map V.int))) else none
    have at1 : H a = some (.frz { cls := .type "list", data := .seq vs.toArray } (.lst (ns.map V.int))) := if_pos rfl
    have at2 : ∀ {b}, b ≠ a → H b = none := fun h => if_neg h
    refine law_coreG KX hns hb hbb hlim hg ha hr F hbind H (fun b => ?_) (fun b u z => ?_) (fun b z => ?_) (fun _ => hk) (hsp H (.inl (.inr ⟨_, at1⟩)))
    · by_cases h : b = a
      · subst h; exact .inr ⟨_, _, at1⟩
      · exact .inl (at2 h)
    · by_cases h : b = a
      · subst h
        rw [at1] at z
        cases z
        exact ⟨ha, by rw [List.length_map]; exact hl, vs, _, rv, ha⟩
      · rw [at2 h] at z
        cases z
    · by_cases h : b = a
      · exact h
      · exact absurd (at2 h) z
end
theorem walkG {l : PySem.W.OpenLaw} {k : Nat} {q : Program} {loose : List Str} {XP : (Str → Option Value) → Heap → Prop} {YP : World → Heap → Prop} {d : DefRec} {K : Params → PySem.W.Frag} {x : Str} {f : Fn} (L : LawSays f)
    (hn : l.most = some 63) (hdf : d.params.defaults = []) (hr : Room k callerA) (hY : ∀ (w : World) (h : Heap), YP w h → (K w.params).In h)
    (F : ∀ (w : World) (mg : Str → Option Value) (fa : Addr) (h : Heap), (K w.params).In h → h.Ns mainGlobals mg → mg d.name = some (.ref fa) →
      ∃ (fd : FuncData) (cl : Nat → Addr), (∀ (s : Shared) (u : Value), BindsTo s fd ⟨[u], []⟩ [(x, u)]) ∧
        ∀ base : Heap, (K w.params).In base → base.Ns mainGlobals mg → FnG l.prog w (K w.params) mg base k fa fd [x] (spF (K w.params) ⟨cl, []⟩ 1 f)) :
    PySem.W.WalkO q loose XP YP l.row.toRowW d [] (fun f vs => PySem.call f vs) := by
  refine Att.attach_call hn hdf fun w s₀ s₁ mg mb fa o pm cd doc a vs ns G Y ho hd hcd hmg hobj hints hlen hg => ?_
  have KX := hY w _ Y
  obtain ⟨fd, cl, hb, hF⟩ := F w mg fa _ KX G.T.g hmg
  exact law_callG KX G.T.g G.T.b G.T.builtins G.T.nolimit hg hobj hints (Nat.le_trans hlen (by decide)) hr hF hb fun H hS => spLaw L H a ns hlen hS fun _ z => by cases z
end T3
namespace T3
open PySem PySem.Spec PyProof.Rows L2
/-! ### isinstance(x, T), T a built-in type -/
/-- the type's name; an instance has none here -/
noncomputable def tyD (S : Store) : A → Option String
  | .val .non => some "NoneType"
  | .val (.bl _) => some "bool"
  | .val (.int _) => some "int"
  | .val (.str _) => some "str"
  | .val (.tup _) => some "tuple"
  | .val (.lst _) => some "list"
  | .val (.ro _) => some "list"
  | .val (.dic _ _) => some "dict"
  | .val (.ins _ _ _) => none
  | .val (.wt _) => none
  | .ref i => (match S[i]? with
    | some (.lst _) => some "list"
    | some (.dic _ _) => some "dict"
    | _ => none)
noncomputable def subT (t T : String) : Bool := t == T || (t == "bool" && T == "int")
noncomputable def cIsi (T : String) (c : CE) : CE := fun ρ S => (c ρ S).bind fun x S1 => match tyD S1 x with
  | some t => .ok (.val (.bl (subT t T))) S1
  | none => .bad
/-- the answers of the kit for the built-in types in use -/
noncomputable def IsiT (K : PySem.W.Frag) (T : String) : Prop := ∀ t ∈ ["NoneType", "bool", "int", "str", "tuple", "list", "dict"], PySem.W.kitOne K (.type t) (.type T) = some (subT t T)
section
variable {X : Cx} {cl : ClT} {W : WX}
theorem tyD_ok {B : Addr → Prop} {H : Hp} {m : List Addr} {S : Store} {v : V} {x : A} {t : String} (o : Ok X.K cl B H m S) (r : RepA X.K cl (NN B m) H m v x) (h : tyD S x = some t) : TyX X.K H v (.type t) ∧ t ∈ ["NoneType", "bool", "int", "str", "tuple", "list", "dict"] := by
  cases x with
  | val d =>
    cases r with
    | non => cases h; exact ⟨.base .non, by decide⟩
    | bl b => cases h; exact ⟨.base (.bl b), by decide⟩
    | int i => cases h; exact ⟨.base (.int i), by decide⟩
    | str s => cases h; exact ⟨.base (.str s), by decide⟩
    | tup ht _ =>
      cases h
      refine ⟨?_, by decide⟩
      rcases ht with ⟨ob, h1, _⟩ | ⟨ob, its, n, h1, h2, _⟩
      · exact .fTuple h1
      · exact .kTuple h1 h2
    | lst h1 _ _ => cases h; exact ⟨.base (.lst h1), by decide⟩
    | ro ht _ =>
      cases h
      refine ⟨?_, by decide⟩
      rcases ht with ⟨h1 | ⟨ob, h1⟩, _⟩ | ⟨ob, its, n, h1, h2, _⟩
      · exact .base (.lst h1)
      · exact .base (.frz h1)
      · exact .kList h1 h2
    | dic h1 _ _ _ => cases h; exact ⟨.base (.dK h1), by decide⟩
    | ins _ _ => cases h
    | wt _ _ _ => cases h
  | ref i =>
    obtain ⟨a, ha, rfl⟩ := r
    simp only [tyD] at h
    split at h <;> cases h
    · rename_i ds hs
      obtain ⟨xs, e, _⟩ := o.obj i a _ ha hs
      exact ⟨.base (.lst e), by decide⟩
    · rename_i ks vs hs
      obtain ⟨xs, e, _⟩ := o.obj i a _ ha hs
      exact ⟨.base (.dK e), by decide⟩
theorem pm_isi {T : String} {x : Str} {e : Expr} {c : CE} {p q pos : Pos} (hT : IsiT X.K T) (he : PE X e (tM X.K cl W c)) (hm : X.mg "isinstance" = none) (hmx : X.mg x = none) (hv : bootBuiltins x = some (.type T)) (hg : Gl X "isinstance" := by rfl) (hgx : Gl X x := by rfl)
    (hn : x ≠ "__name__" := by decide) (hd : (x == ("__debug__" : Str)) = false := by decide) (hs : starEach [e, .Name x q] X.env = (false, eval e X.env) :: starEach [.Name x q] X.env := by rfl) (hs2 : starEach [.Name x q] X.env = (false, eval (.Name x q) X.env) :: starEach [] X.env := by rfl)
    (hpl : (backTo pos (starEach [.Name x q] X.env)).any (·.1) = false := by rfl) : PE X (.Call (.Name "isinstance" p) [e, .Name x q] [] pos) (tM X.K cl W (cIsi T c)) := by
  have ht : PE X (.Name x q) (tC (.ty T)) := pe_bltn hgx hmx hv (by rfl) hn hd
  have ha : PA X [e, .Name x q] (tCons (tM X.K cl W c) (tCons (tC (.ty T)) tNil)) := pa_cons he (pa_cons ht pa_nil hs2) hs
  refine PE.imp (pe_callB call_isi hg hm (by rfl) ha (by decide) (by decide) hs hpl) fun σ H Q h => ?_
  obtain ⟨B, m, S, ρ, o, en, fin⟩ := h
  refine ⟨B, m, S, ρ, o, en, Fin.bind fin fun x S1 v H1 m1 s1 o1 r1 f1 => ?_⟩
  split at f1
  · rename_i t ht
    obtain ⟨h1, h2⟩ := tyD_ok o1 r1 ht
    exact ⟨v, .ty T, .type t, .type T, _, rfl, .ty T, h1, hT t h2, f1.here o1 (.bl _)⟩
  · exact f1.elim

/-! ### list.index, list.count, str.count, str.split -/
noncomputable def findD (x : D) : List D → Option Nat
  | [] => none
  | d :: r => if dEq d x then some 0 else (findD x r).map (· + 1)
noncomputable def fIndex (x : A) (xs : List A) (S : Store) : Res := match x, xs with
  | x, [y] => (match cur S x, cur S y with
    | some (.lst ds), some d => if shp d && shp (.lst ds) then (match findD d ds with
      | some j => .ok (.val (.int (j : Nat))) S
      | none => .bad) else .bad
    | _, _ => .bad)
  | _, _ => .bad
theorem find_ok {K : PySem.W.Frag} {d : D} (hd : dOk d = true) : ∀ {ds : List D} {j : Nat}, dOkL ds = true → findD d ds = some j →
    ∃ z, (toPL ds)[j]? = some z ∧ PyData.eqv z (toP d) = true ∧ ∀ (m : Nat) (z' : PyData), m < j → (toPL ds)[m]? = some z' → PyData.eqv z' (toP d) = false
  | [], j, _, h => by cases h
  | x :: r, j, hl, h => by
    simp only [dOkL, Bool.and_eq_true] at hl
    simp only [findD] at h
    split at h
    · rename_i he
      cases h
      exact ⟨toP x, rfl, by rw [dEq_toP hl.1 hd]; exact he, fun m z' hm => absurd hm (Nat.not_lt_zero m)⟩
    · rename_i he
      cases q : findD d r with
      | none => rw [q] at h; cases h
      | some i =>
        rw [q] at h
        cases h
        obtain ⟨z, h1, h2, h3⟩ := find_ok (K := K) hd hl.2 q
        refine ⟨z, h1, h2, fun m z' hm hz => ?_⟩
        cases m with
        | zero =>
          cases hz
          rw [dEq_toP hl.1 hd]
          exact Bool.eq_false_iff.mpr he
        | succ m => exact h3 m z' (Nat.lt_of_succ_lt_succ hm) hz
theorem ok_index : MtOk X.K cl (rIndexD X.K) fIndex := by
  intro B H m S σ W v x vs xs Q o rx rs h
  unfold fIndex at h
  split at h
  · rename_i y
    obtain ⟨w, rfl, r1⟩ := one_arg rs
    split at h
    · rename_i ds d h1 h2
      split at h
      · rename_i hz
        simp only [Bool.and_eq_true] at hz
        split at h
        · rename_i j hj
          have hl := Dp.of (cur_ok o rx h1) (shp_ok hz.2)
          obtain ⟨a, rfl⟩ : ∃ a, v = .ref a := by cases cur_ok o rx h1 with | lst _ _ _ => exact ⟨_, rfl⟩
          obtain ⟨z, e1, e2, e3⟩ := find_ok (K := X.K) (shp_ok hz.1) (ds := ds) (shp_ok hz.2) hj
          exact ⟨a, w, toP d, toPL ds, j, z, rfl, rfl, hl, Dp.of (cur_ok o r1 h2) (shp_ok hz.1), shp_shaped hz.2, shp_shaped hz.1, e1, e2, e3, h.here o (.int _)⟩
        · exact h.elim
      · exact h.elim
    · exact h.elim
  · exact h.elim
/-- s.count(t) -/
noncomputable def fCnt (x : A) (xs : List A) (S : Store) : Res := match x, xs with
  | .val (.str a), [.val (.str b)] => .ok (.val (.int (Txt.count a b))) S
  | _, _ => .bad
theorem ok_cnt : MtOk X.K cl (fun x xs H Q => ∃ a b, x = .str a ∧ xs = [.str b] ∧ Q (.int (Txt.count a b)) H) fCnt := by
  intro B H m S σ W v x vs xs Q o rx rs h
  unfold fCnt at h
  split at h
  · obtain ⟨w, rfl, r1⟩ := one_arg rs
    cases rx; cases r1
    exact ⟨_, _, rfl, rfl, h.here o (.int _)⟩
  · exact h.elim
/-- s.split(t) -/
noncomputable def fSplit (fr : Bool) (x : A) (xs : List A) (S : Store) : Res := match x, xs with
  | .val (.str a), [.val (.str b)] => if b.length == 0 then .bad else if szOk (a.length + 2) then mkL fr ((Txt.split a b).map D.str) S else .bad
  | _, _ => .bad
theorem repl_strs {K : PySem.W.Frag} {N : Addr → Prop} {H : Hp} : ∀ ns : List Str, RepL K cl N H (ns.map V.str) (ns.map D.str)
  | [] => .nil
  | n :: r => .cons (.str n) (repl_strs r)
theorem ok_split (fr : Bool) : MtOk X.K cl (fun x xs H Q => ∃ a b, x = .str a ∧ xs = [.str b] ∧ (b.length == 0) = false ∧ a.length + 2 ≤ sizeLine ∧ rNewStrs (Txt.split a b) H Q) (fSplit fr) := by
  intro B H m S σ W v x vs xs Q o rx rs h
  unfold fSplit at h
  split at h
  · rename_i a b
    obtain ⟨w, rfl, r1⟩ := one_arg rs
    cases rx; cases r1
    split at h
    · exact h.elim
    · rename_i hb
      split at h
      · rename_i hz
        exact ⟨a, b, rfl, rfl, Bool.eq_false_iff.mpr hb, szOk_line hz, fun p hp => mkL_ok o (repl_strs _) hp h⟩
      · exact h.elim
  · exact h.elim
theorem pm_index {o e : Expr} {c ce : CE} {apos cpos : Pos} (hu : X.A.units + 65 < cLine) (ho : PE X o (tM X.K cl W c)) (ha : PE X e (tM X.K cl W ce)) (hs1 : starEach [e] X.env = (false, eval e X.env) :: starEach [] X.env := by rfl)
    (hbase : attributeBase o "index" X.env (eval o X.env) = eval o X.env := by rfl) (hfew : ((backTo cpos (starEach [e] X.env)).all (fun x => !x.1) && (backToKw cpos (keywordEach [] X.env)).all (fun x => x.1.isSome)
      && decide ([e].length + ([] : List Keyword).length + (if ([] : List Keyword).isEmpty then 0 else 1) < 30)) = true := by rfl) (hline : (apos.endLine == cpos.line) = true := by rfl) (hplain : (backTo cpos (starEach [] X.env)).any (·.1) = false := by rfl) :
    PE X (.Call (.Attribute o "index" apos) [e] [] cpos) (tM X.K cl W (cMt tyL fIndex c (cCons ce cNil))) :=
  PE.imp (pe_bm PySem.F.plainAttrs_list PySem.F.slot_list_index PySem.F.type_list_index (mt_indexD hu) ho (pm_cons ha pm_nil hs1) hbase hfew hline hs1 hplain) fun _ _ _ h => tBM_ok ty_list ok_index h
theorem pm_scount {o e : Expr} {c ce : CE} {apos cpos : Pos} (ho : PE X o (tM X.K cl W c)) (ha : PE X e (tM X.K cl W ce)) (hs1 : starEach [e] X.env = (false, eval e X.env) :: starEach [] X.env := by rfl)
    (hbase : attributeBase o "count" X.env (eval o X.env) = eval o X.env := by rfl) (hfew : ((backTo cpos (starEach [e] X.env)).all (fun x => !x.1) && (backToKw cpos (keywordEach [] X.env)).all (fun x => x.1.isSome)
      && decide ([e].length + ([] : List Keyword).length + (if ([] : List Keyword).isEmpty then 0 else 1) < 30)) = true := by rfl) (hline : (apos.endLine == cpos.line) = true := by rfl) (hplain : (backTo cpos (starEach [] X.env)).any (·.1) = false := by rfl) :
    PE X (.Call (.Attribute o "count" apos) [e] [] cpos) (tM X.K cl W (cMt tyS fCnt c (cCons ce cNil))) :=
  PE.imp (pe_bm PySem.F.plainAttrs_str PySem.F.slot_str_count PySem.F.type_str_count mt_count ho (pm_cons ha pm_nil hs1) hbase hfew hline hs1 hplain) fun _ _ _ h => tBM_ok ty_str ok_cnt h
theorem pm_split (fr : Bool) {o e : Expr} {c ce : CE} {apos cpos : Pos} (ho : PE X o (tM X.K cl W c)) (ha : PE X e (tM X.K cl W ce)) (hs1 : starEach [e] X.env = (false, eval e X.env) :: starEach [] X.env := by rfl)
    (hbase : attributeBase o "split" X.env (eval o X.env) = eval o X.env := by rfl) (hfew : ((backTo cpos (starEach [e] X.env)).all (fun x => !x.1) && (backToKw cpos (keywordEach [] X.env)).all (fun x => x.1.isSome)
      && decide ([e].length + ([] : List Keyword).length + (if ([] : List Keyword).isEmpty then 0 else 1) < 30)) = true := by rfl) (hline : (apos.endLine == cpos.line) = true := by rfl) (hplain : (backTo cpos (starEach [] X.env)).any (·.1) = false := by rfl) :
    PE X (.Call (.Attribute o "split" apos) [e] [] cpos) (tM X.K cl W (cMt tyS (fSplit fr) c (cCons ce cNil))) :=
  PE.imp (pe_bm PySem.F.plainAttrs_str PySem.F.slot_str_split PySem.F.type_str_split mt_split ho (pm_cons ha pm_nil hs1) hbase hfew hline hs1 hplain) fun _ _ _ h => tBM_ok ty_str (ok_split fr) h
end
end T3
namespace T3
open PySem PySem.Spec PyProof.Rows L2
/-! ### for the printed derivations -/
theorem hu65 {k : Nat} {A : Around} (r : Room k A) : A.units + 65 < cLine := by have := r.un; omega
theorem hu64 {k : Nat} {A : Around} (r : Room k A) : A.units + 64 < cLine := by have := r.un; omega
theorem hu70 {k : Nat} {A : Around} (r : Room k A) : A.units + 70 < cLine := by have := r.un; omega
noncomputable def fNeg (x : A) (S : Store) : Res := match x with
  | .val (.int i) => .ok (.val (.int (-i))) S
  | _ => .bad
section
variable {K : PySem.W.Frag} {cl : ClT}
theorem ok_neg : UnOk K cl (rU fun i => .int (-i)) fNeg := by
  intro B H m S σ W v x Q o r h
  unfold fNeg at h
  split at h
  · cases r
    exact ⟨_, rfl, h.here o (.int _)⟩
  · exact h.elim
theorem ok_fSub : OpOk K cl (rI0 fun i j => .int (i - j)) fSub := ok_i20 fun _ _ _ _ => .int _
theorem ok_fLt : OpOk K cl (rI0 fun i j => .bl (decide (i < j))) fLt := ok_i20 fun _ _ _ _ => .bl _
theorem ok_fLe : OpOk K cl (rI0 fun i j => .bl (decide (i ≤ j))) fLe := ok_i20 fun _ _ _ _ => .bl _
theorem ok_fGt : OpOk K cl (rI0 fun i j => .bl (decide (j < i))) fGt := ok_i20 fun _ _ _ _ => .bl _
theorem ok_fGe : OpOk K cl (rI0 fun i j => .bl (decide (j ≤ i))) fGe := ok_i20 fun _ _ _ _ => .bl _
theorem ok_fMod : OpOk K cl (rI (fun _ j => 0 < j) fun i j => .int (i % j)) fMod := ok_i2 (fun _ _ h => by simpa using h) fun _ _ _ _ => .int _
theorem ok_fFdv : OpOk K cl (rI CDiv fun i j => .int (i / j)) fFdv := ok_i2 (fun _ _ h => by simpa [CDiv] using h) fun _ _ _ _ => .int _
theorem ok_fPow : OpOk K cl (rI CPow fun i j => .int (i ^ j.toNat)) fPow := ok_i2 (fun i j h => by
  simp only [Bool.and_eq_true, decide_eq_true_eq] at h
  refine ⟨?_, ?_, ?_⟩ <;> omega) fun _ _ _ _ => .int _
end
end T3
namespace T3
open PySem PySem.Spec PyProof.Rows L2
/-! ### the text's defs -/
/-- where a def stands -/
noncomputable def At (K : PySem.W.Frag) (mg : Str → Option Value) (nm : Str) (st : Stmt) : Prop := ∃ (fa : Addr) (fd : FuncData), mg nm = some (.ref fa) ∧ Fun K nm nm st fa fd
/-- a module's constant -/
noncomputable def Cn (mg : Str → Option Value) (nm : Str) (v : V) : Prop := ∃ u, mg nm = some u ∧ RelV v u
section
variable {P : Program} {w : World} {K : PySem.W.Frag} {mg : Str → Option Value} {base : Heap} {cl : ClT}
theorem at_mk {h : Heap} {nm : Str} {st : Stmt} {fa : Addr} {oc : Value} {od an : Option Addr} {osl : Array (Option Value)} {kV doc pm cdv ct : Value} (X : K.In h) (G : h.Ns mainGlobals mg) (a : PySem.W.nsIn K mainGlobals nm = some (some (.ref fa)))
    (l : K.lookup fa = some ⟨oc, od, .func (PySem.W.fnOf nm nm (defArgs st) (defBody st) (defScope st) .none kV doc pm an cdv ct), osl⟩) (c : PySem.W.codeIn K cdv nm = true) (k : PySem.W.keepIn K (.ref fa) = true) : At K mg nm st :=
  ⟨fa, _, PySem.W.mg_of X G a, fun_mk l c k⟩
theorem binds_of {nm : Str} {st : Stmt} {ps : List Str} (h : ∀ (kV doc pm : Value) (an : Option Addr) (cdv ct : Value) (us : List Value), us.length = ps.length → bindArgs (PySem.W.fnOf nm nm (defArgs st) (defBody st) (defScope st) .none kV doc pm an cdv ct) ⟨us, []⟩ = pure (ps.zip us))
    (fa : Addr) (fd : FuncData) (F : Fun K nm nm st fa fd) : Binds K fd ps [] := F.binds h
theorem kb_of {nm : Str} {st : Stmt} {ps ks : List Str} {perm : List Nat} (h : ∀ (kV doc pm : Value) (an : Option Addr) (cdv ct : Value) (ws : List Value), ws.length = ks.length → ∃ us, perm.map (fun i => ws[i]?) = us.map some ∧
      bindArgs (PySem.W.fnOf nm nm (defArgs st) (defBody st) (defScope st) .none kV doc pm an cdv ct) ⟨[], ks.zip ws⟩ = pure (ps.zip us))
    (fa : Addr) (fd : FuncData) (F : Fun K nm nm st fa fd) : KB K fd ps ks perm := by
  obtain ⟨oc, od, kV, doc, pm, an, cdv, ct, osl, rfl, lk, hcd⟩ := F.ex
  refine ⟨fun s ws _ hl => ?_⟩
  obtain ⟨us, e1, e2⟩ := h kV doc pm an cdv ct ws hl
  exact ⟨us, e1, .of_eq e2⟩
/-- a def by its body -/
theorem fnD {nm : Str} {st : Stmt} {N ps : List Str} {k : Nat} {b : CS} (S : FnScope N ps (defScope st))
    (body : ∀ (fa : Addr) (cdv : Value) (A : Around) (outer : List Env) (s : Shared) (H : Hp) (E : XK),
      (A.deeper (envOfC nm (defScope st) s.heap.objs.size fa cdv)).guards = some [] → Room k (A.deeper (envOfC nm (defScope st) s.heap.objs.size fa cdv)) →
      Takes (cxOf (L2.CX P w) P w K mg base N nm (defScope st) fa cdv A outer s H E) (fun c d _ H => E c d H) →
      PSs (cxOf (L2.CX P w) P w K mg base N nm (defScope st) fa cdv A outer s H E) (defBody st) (tMS K cl (fun c d _ H => E c d H) b))
    (fa : Addr) (fd : FuncData) (F : Fun K nm nm st fa fd) : FnG P w K mg base (k + 1) fa fd ps (spF K cl ps.length (runF N.length b)) := fnM F S (body fa)
theorem calG_of {nm : Str} {st : Stmt} {ps : List Str} {j n : Nat} {f : Fn} (D : At K mg nm st) (bd : ∀ fa fd, Fun K nm nm st fa fd → Binds K fd ps []) (h : ∀ fa fd, Fun K nm nm st fa fd → FnG P w K mg base j fa fd ps (spF K cl n f)) (hn : ps.length = n := by rfl) : CalG P w K mg base cl j nm n f := by
  obtain ⟨fa, fd, hm, F⟩ := D
  exact ⟨fa, fd, ps, hm, F.kp, bd _ _ F, hn, h _ _ F⟩
theorem calK_of {nm : Str} {st : Stmt} {ps ks : List Str} {perm : List Nat} {j n : Nat} {f : Fn} (D : At K mg nm st) (kb : ∀ fa fd, Fun K nm nm st fa fd → KB K fd ps ks perm) (h : ∀ fa fd, Fun K nm nm st fa fd → FnG P w K mg base j fa fd ps (spF K cl n f)) : CalK P w K mg base cl j nm n f ks perm := by
  obtain ⟨fa, fd, hm, F⟩ := D
  exact ⟨fa, fd, ps, hm, F.kp, kb _ _ F, h _ _ F⟩
/-- the whole's end: law's own def -/
theorem law_end {pn : Str} {cl : Nat → Addr} {st : Stmt} {fa : Addr} {j : Nat} {f : Fn} (hm : mg "law" = some (.ref fa)) (D : At K mg "law" st) (bd : ∀ fa fd, Fun K "law" "law" st fa fd → ∀ (s : Shared) (u : Value), BindsTo s fd ⟨[u], []⟩ [(pn, u)])
    (h : ∀ (base : Heap) fa fd, Fun K "law" "law" st fa fd → FnG P w K mg base j fa fd [pn] (spF K ⟨cl, []⟩ 1 f)) :
    ∃ (fd : FuncData) (cl : Nat → Addr), (∀ (s : Shared) (u : Value), BindsTo s fd ⟨[u], []⟩ [(pn, u)]) ∧ ∀ base : Heap, K.In base → base.Ns mainGlobals mg → FnG P w K mg base j fa fd [pn] (spF K ⟨cl, []⟩ 1 f) := by
  obtain ⟨fa', fd, hm', F⟩ := D
  cases hm.symm.trans hm'
  exact ⟨fd, cl, bd _ _ F, fun base _ _ => h base _ _ F⟩
theorem bindsL {pn : Str} {st : Stmt} (h : ∀ (kV doc pm : Value) (an : Option Addr) (cdv ct u : Value), bindArgs (PySem.W.fnOf "law" "law" (defArgs st) (defBody st) (defScope st) .none kV doc pm an cdv ct) ⟨[u], []⟩ = pure [(pn, u)])
    (fa : Addr) (fd : FuncData) (F : Fun K "law" "law" st fa fd) (s : Shared) (u : Value) : BindsTo s fd ⟨[u], []⟩ [(pn, u)] := by
  obtain ⟨oc, od, kV, doc, pm, an, cdv, ct, osl, rfl, lk, hcd⟩ := F.ex
  exact .of_eq (h kV doc pm an cdv ct u)
end
end T3
namespace T3
open PySem PySem.Spec PyProof.Rows L2
theorem isiT_int (K : PySem.W.Frag) : IsiT K "int" := by
  intro t ht
  simp only [List.mem_cons, List.not_mem_nil, or_false] at ht
  rcases ht with rfl | rfl | rfl | rfl | rfl | rfl | rfl <;> rfl
theorem isiT_bool (K : PySem.W.Frag) : IsiT K "bool" := by
  intro t ht
  simp only [List.mem_cons, List.not_mem_nil, or_false] at ht
  rcases ht with rfl | rfl | rfl | rfl | rfl | rfl | rfl <;> rfl
theorem isiT_str (K : PySem.W.Frag) : IsiT K "str" := by
  intro t ht
  simp only [List.mem_cons, List.not_mem_nil, or_false] at ht
  rcases ht with rfl | rfl | rfl | rfl | rfl | rfl | rfl <;> rfl
theorem isiT_tuple (K : PySem.W.Frag) : IsiT K "tuple" := by
  intro t ht
  simp only [List.mem_cons, List.not_mem_nil, or_false] at ht
  rcases ht with rfl | rfl | rfl | rfl | rfl | rfl | rfl <;> rfl
theorem isiT_list (K : PySem.W.Frag) : IsiT K "list" := by
  intro t ht
  simp only [List.mem_cons, List.not_mem_nil, or_false] at ht
  rcases ht with rfl | rfl | rfl | rfl | rfl | rfl | rfl <;> rfl
end T3
namespace T3
open PySem PySem.Spec PyProof.Rows L2
/-! ### evaluation, step by step -/
/-- a turn of a loop -/
noncomputable def lb (t : CT) (b : CS) : D → CS := fun d ρ S => match t (.val d) ρ S with
  | some (ρ', S') => b ρ' S'
  | none => .bad
theorem forL_cg {B : D → CS} {ds ds' : List D} {ρ ρ' : Slots} {S S' : Store} (h1 : ds = ds') (h2 : ρ = ρ') (h3 : S = S') : forL B ds ρ S = forL B ds' ρ' S' := by rw [h1, h2, h3]
theorem lcGo_cg {B : Elm} {ds ds' : List D} {S S' : Store} (h1 : ds = ds') (h3 : S = S') : lcGo B ds S = lcGo B ds' S' := by rw [h1, h3]
theorem lcGo2_cg {B : Elm2} {ds ds' : List D} {S S' : Store} (h1 : ds = ds') (h3 : S = S') : lcGo2 B ds S = lcGo2 B ds' S' := by rw [h1, h3]
theorem call_cg {ad : Bool} {f : Fn} {xs xs' : List A} {S S' : Store} (h1 : xs = xs') (h3 : S = S') : callIn ad f xs S = callIn ad f xs' S' := by rw [h1, h3]
section
variable {ρ : Slots} {S S1 S2 : Store} {i j : Nat}
@[simp ↓] theorem ap_V : cV i ρ S = (match ρ[i]? with | some (some x) => Res.ok x S | _ => .bad) := by
  first | rfl | (unfold cV; rfl)
@[simp ↓] theorem ap_K {d : D} : cK d ρ S = .ok (.val d) S := rfl
@[simp ↓] theorem ap_Bin {f : A → A → Store → Res} {a b : CE} : cBin f a b ρ S = (match a ρ S with | .ok x S1 => ((match b ρ S1 with | .ok y S2 => (f x y S2) | .exc e S9 => .exc e S9 | .bad => .bad)) | .exc e S9 => .exc e S9 | .bad => .bad) := rfl
@[simp ↓] theorem ap_Un {f : A → Store → Res} {a : CE} : cUn f a ρ S = (match a ρ S with | .ok x9 S8 => (f x9 S8) | .exc e S9 => .exc e S9 | .bad => .bad) := rfl
@[simp ↓] theorem ap_Nil : cNil ρ S = .ok [] S := rfl
@[simp ↓] theorem ap_Cons {c : CE} {r : CA} : cCons c r ρ S = (match c ρ S with | .ok x S1 => (match r ρ S1 with | .ok xs S2 => LRes.ok (x :: xs) S2 | .exc e S2 => .exc e S2 | .bad => .bad) | .exc e S1 => .exc e S1 | .bad => .bad) := rfl
@[simp ↓] theorem ap_Tup {c : CA} : cTup c ρ S = (match c ρ S with | .ok xs S1 => (match valsOf xs with | some ds => if szOk ds.length then .ok (.val (.tup ds)) S1 else .bad | none => .bad) | .exc e S9 => .exc e S9 | .bad => .bad) := rfl
@[simp ↓] theorem ap_Lst {fr : Bool} {c : CA} : cLst fr c ρ S = (match c ρ S with | .ok xs S1 => (match valsOf xs with | some ds => if szOk ds.length then mkL fr ds S1 else .bad | none => .bad) | .exc e S9 => .exc e S9 | .bad => .bad) := rfl
@[simp] theorem mkL_t {ds : List D} : mkL true ds S = .ok (.val (.lst ds)) S := rfl
@[simp] theorem mkL_f {ds : List D} : mkL false ds S = .ok (.ref S.length) (S ++ [.lst ds]) := rfl
@[simp ↓] theorem ap_If {ct ca cb : CE} : cIf ct ca cb ρ S = (match ct ρ S with | .ok x S1 => (match x with | .val (.bl true) => ca ρ S1 | .val (.bl false) => cb ρ S1 | _ => .bad) | .exc e S9 => .exc e S9 | .bad => .bad) := rfl
@[simp ↓] theorem ap_Tru {c : CE} : cTru c ρ S = (match c ρ S with | .ok x S1 => (match tru S1 x with | some b => .ok (.val (.bl b)) S1 | none => .bad) | .exc e S9 => .exc e S9 | .bad => .bad) := rfl
@[simp ↓] theorem ap_And {a b : CE} : cAnd a b ρ S = cIf a b (cB false) ρ S := rfl
@[simp ↓] theorem ap_Or {a b : CE} : cOr a b ρ S = cIf a (cB true) b ρ S := rfl
@[simp ↓] theorem ap_Not {a : CE} : cNot a ρ S = cIf a (cB false) (cB true) ρ S := rfl
@[simp ↓] theorem ap_sNil : sNil ρ S = .nx ρ S := rfl
@[simp ↓] theorem ap_sSeq {a b : CS} : sSeq a b ρ S = (match a ρ S with | .nx ρ' S' => b ρ' S' | r => r) := rfl
@[simp ↓] theorem ap_sAsg {t : CT} {c : CE} : sAsg t c ρ S = (match c ρ S with | .ok x S1 => (match t x ρ S1 with | some (ρ', S') => SRes.nx ρ' S' | none => .bad) | .exc e S9 => .exc e ρ S9 | .bad => .bad) := rfl
@[simp ↓] theorem ap_sExp {c : CE} : sExp c ρ S = (match c ρ S with | .ok _ S1 => (.nx ρ S1) | .exc e S9 => .exc e ρ S9 | .bad => .bad) := rfl
@[simp ↓] theorem ap_sRet {c : CE} : sRet c ρ S = (match c ρ S with | .ok x S1 => (.rt x S1) | .exc e S9 => .exc e ρ S9 | .bad => .bad) := rfl
@[simp ↓] theorem ap_sIf {c : CE} {a b : CS} : sIf c a b ρ S = (match c ρ S with | .ok x S1 => (match x with | .val (.bl true) => a ρ S1 | .val (.bl false) => b ρ S1 | _ => .bad) | .exc e S9 => .exc e ρ S9 | .bad => .bad) := rfl
@[simp ↓] theorem ap_sFor {ci : CI} {t : CT} {b : CS} : sFor ci t b ρ S = (match ci ρ S with | .ok xs S1 => forL (lb t b) xs ρ S1 | .exc e S1 => .exc e ρ S1 | .bad => .bad) := rfl
@[simp ↓] theorem ap_lb {t : CT} {b : CS} {d : D} : lb t b d ρ S = (match t (.val d) ρ S with | some (ρ', S') => b ρ' S' | none => .bad) := rfl
@[simp ↓] theorem ap_tgName {x : A} : tgName i x ρ S = some (ρ.set i (some x), S) := rfl
@[simp ↓] theorem ap_tgNil {ds : List D} : tgNil ds ρ S = if ds.isEmpty then some (ρ, S) else none := rfl
@[simp ↓] theorem ap_tgCons {t : CT} {u : List D → Slots → Store → Option (Slots × Store)} {ds : List D} : tgCons t u ds ρ S = (match ds with | d :: r => (match t (.val d) ρ S with | some (ρ', S') => u r ρ' S' | none => none) | [] => none) := rfl
@[simp ↓] theorem ap_tgTup {n : Nat} {u : List D → Slots → Store → Option (Slots × Store)} {x : A} : tgTup n u x ρ S = (match x with | .val (.tup ds) => (if ds.length = n then u ds ρ S else none) | .val (.wt ds) => (if ds.length = n then u ds ρ S else none) | _ => none) := rfl
end
/-! ### a tuple or a list taken apart -/
noncomputable def tgAny (n : Nat) (u : List D → Slots → Store → Option (Slots × Store)) : CT := fun x ρ S => match (match x with
    | .val (.tup ds) => some ds
    | .val (.wt ds) => some ds
    | y => asL S y) with
  | some ds => if ds.length = n then u ds ρ S else none
  | none => none
noncomputable def gAny (K : PySem.W.Frag) (n : Nat) (gs : TGs) : TG := fun v σ H Q => gTup K n gs v σ H Q ∨ gUnl K n gs v σ H Q
section
variable {X : Cx} {cl : ClT}
theorem pg_any {es : List Expr} {k : Nat} {t : TGs} {n : Nat} {pos : Pos} (hc : X.calm = true) (h : PGs X es t) (hn : (assignEach es X.env).length = n := by rfl) (hst : (assignEach es X.env).findIdx? (·.1) = none := by rfl) : PG X (.Tuple es k pos) (gAny X.K n t) :=
  ⟨fun pins s σ H v u Q I r q => q.elim (fun q => (pg_tup hc h hn hst).run pins s σ H v u Q I r q) fun q => (pg_unl hc h hn hst).run pins s σ H v u Q I r q⟩
theorem tgAny_eq {n : Nat} {u : List D → Slots → Store → Option (Slots × Store)} {x : A} {ρ ρ' : Slots} {S S' : Store} (h : tgAny n u x ρ S = some (ρ', S')) : tgTup n u x ρ S = some (ρ', S') ∨ tgSeq n u x ρ S = some (ρ', S') := by
  unfold tgAny at h
  cases x with
  | ref i => exact .inr h
  | val d => cases d <;> first | exact .inl h | exact .inr h
theorem tg_any {n : Nat} {gs : TGs} {u : List D → Slots → Store → Option (Slots × Store)} (hs : TgsOk X.K cl gs u) : TgOk X.K cl (gAny X.K n gs) (tgAny n u) := by
  intro B H m S S' v x σ ρ ρ' Q o e r h k
  rcases tgAny_eq h with h | h
  · exact .inl (tg_tup hs o e r h k)
  · exact .inr (tg_seq hs o e r h k)
end
section
variable {ρ : Slots} {S S1 S2 : Store} {i j : Nat}
@[simp ↓] theorem ap_tgAny {n : Nat} {u : List D → Slots → Store → Option (Slots × Store)} {x : A} : tgAny n u x ρ S = (match (match x with | .val (.tup ds) => some ds | .val (.wt ds) => some ds | y => asL S y) with | some ds => if ds.length = n then u ds ρ S else none | none => none) := rfl
@[simp ↓] theorem ap_tgSub {co ci : CE} {x : A} : tgSub co ci x ρ S = (match co ρ S, x with | .ok (.ref j) S1, .val d => (match ci ρ S1 with | .ok (.val (.int k)) S2 => (match S2[j]? with | some (.lst ds) => (match ixN ds.length k with | some q => some (ρ, S2.set j (.lst (ds.set q d))) | none => none) | _ => none) | _ => none) | _, _ => none) := rfl
@[simp ↓] theorem ap_R1 {c : CE} : ciR1 c ρ S = (match c ρ S with | .ok (.val (.int j)) S1 => if decide (-1000000 ≤ j) && decide (j ≤ 1000000) then .ok (rangeD 0 j.toNat) S1 else .bad | .exc e S1 => .exc e S1 | _ => .bad) := rfl
@[simp ↓] theorem ap_R2 {c d : CE} : ciR2 c d ρ S = (match c ρ S with | .ok (.val (.int i)) S1 => (match d ρ S1 with | .ok (.val (.int j)) S2 => if decide (-1000000 ≤ i) && decide (i ≤ 1000000) && decide (-1000000 ≤ j) && decide (j ≤ 1000000) then .ok (rangeD i (j - i).toNat) S2 else .bad | .exc e S1 => .exc e S1 | _ => .bad) | .exc e S1 => .exc e S1 | _ => .bad) := rfl
@[simp ↓] theorem ap_ciV {c : CE} : ciV c ρ S = (match c ρ S with | .ok (.val (.lst ds)) S1 => .ok ds S1 | .ok (.val (.ro ds)) S1 => .ok ds S1 | .ok (.val (.tup ds)) S1 => .ok ds S1 | .ok (.val (.str s)) S1 => .ok (signsD s) S1 | .exc e S1 => .exc e S1 | _ => .bad) := rfl
@[simp ↓] theorem ap_B1 {f : List A → Store → Res} {c : CA} : cB1 f c ρ S = (match c ρ S with | .ok x9 S8 => (f x9 S8) | .exc e S9 => .exc e S9 | .bad => .bad) := rfl
@[simp ↓] theorem ap_Mt {ty : A → Store → Bool} {f : A → List A → Store → Res} {c : CE} {ca : CA} : cMt ty f c ca ρ S = (match c ρ S with | .ok x S1 => (if ty x S1 then (match ca ρ S1 with | .ok xs S2 => f x xs S2 | .exc e S9 => .exc e S9 | .bad => .bad) else .bad) | .exc e S9 => .exc e S9 | .bad => .bad) := rfl
@[simp ↓] theorem ap_Call {n : Nat} {ad : Bool} {f : Fn} {c : CA} : cCall n ad f c ρ S = (match c ρ S with | .ok xs S1 => (if xs.length = n then callIn ad f xs S1 else .bad) | .exc e S9 => .exc e S9 | .bad => .bad) := rfl
@[simp ↓] theorem ap_Call0 {ad : Bool} {f : Fn} : cCall0 ad f ρ S = callIn ad f [] S := rfl
@[simp ↓] theorem ap_CallK {n q : Nat} {ad : Bool} {perm : List Nat} {f : Fn} {c : CA} : cCallK n q ad perm f c ρ S = (match c ρ S with | .ok xs S1 => (if xs.length = q then (match pick xs perm with | some ys => if ys.length = n then callIn ad f ys S1 else .bad | none => .bad) else .bad) | .exc e S9 => .exc e S9 | .bad => .bad) := rfl
@[simp ↓] theorem ap_Isi {T : String} {c : CE} : cIsi T c ρ S = (match c ρ S with | .ok x S1 => (match tyD S1 x with | some t => .ok (.val (.bl (subT t T))) S1 | none => .bad) | .exc e S9 => .exc e S9 | .bad => .bad) := rfl
@[simp ↓] theorem ap_Lc {fr : Bool} {vs : List Nat} {ci : CI} {t : CT} {ct ce : CE} : cLc fr vs ci t ct ce ρ S = (match ci ρ S with | .ok xs S1 => (match lcGo (elm t ct ce (wipeR ρ vs)) xs S1 with | some (ds, S2) => if szOk ds.length then mkL fr ds S2 else .bad | none => .bad) | .exc e S1 => .exc e S1 | .bad => .bad) := rfl
@[simp ↓] theorem ap_elm {t : CT} {ct ce : CE} {d : D} : elm t ct ce ρ d S = (match t (.val d) ρ S with | some (ρ', S') => (match ct ρ' S' with | .ok (.val (.bl true)) S2 => (match ce ρ' S2 with | .ok (.val y) S3 => some (some y, S3) | _ => none) | .ok (.val (.bl false)) S2 => some (none, S2) | _ => none) | none => none) := rfl
@[simp ↓] theorem ap_Yes : cYes ρ S = .ok (.val (.bl true)) S := rfl
@[simp ↓] theorem ap_Sl {fr : Bool} {c : CE} {lo hi : Option CE} : cSl fr c lo hi ρ S = (match c ρ S with | .ok x S1 => (withO lo ρ S1 fun l S2 => withO hi ρ S2 fun u S3 => slD fr x l u S3) | .exc e S9 => .exc e S9 | .bad => .bad) := rfl
@[simp ↓] theorem ap_Star {c : CE} {r : CA} : cStar c r ρ S = (match c ρ S with | .ok x S1 => (match (match x with | .val (.tup ds) => some ds | y => asL S1 y) with | some ds => (match r ρ S1 with | .ok xs S2 => .ok (ds.map A.val ++ xs) S2 | .exc e S2 => .exc e S2 | .bad => .bad) | none => .bad) | .exc e S1 => .exc e S1 | .bad => .bad) := rfl
@[simp ↓] theorem ap_Par {c : CA} : sPar i j c ρ S = (match c ρ S with | .ok [x, y] S1 => .nx ((ρ.set i (some x)).set j (some y)) S1 | .ok _ _ => .bad | .exc e S1 => .exc e ρ S1 | .bad => .bad) := rfl
@[simp ↓] theorem ap_LenSet {c : CE} : cLenSet c ρ S = (match c ρ S with | .ok x S1 => (match (match x with | .val (.tup ds) => some ds | y => asL S1 y) with | some ds => (match intsOf ds with | some ns => (if decide (ns.length ≤ 1000) then .ok (.val (.int (dedupI ns).length)) S1 else .bad) | none => .bad) | none => .bad) | .exc e S9 => .exc e S9 | .bad => .bad) := rfl
@[simp ↓] theorem ap_Chain {f g : A → A → Store → Res} {ca cb cc : CE} : cChain f g ca cb cc ρ S = (match ca ρ S with | .ok x S1 => (match cb ρ S1 with | .ok y S2 => (match f x y S2 with | .ok z S3 => (match z with | .val (.bl true) => (match cc ρ S3 with | .ok w S4 => g y w S4 | .exc e S9 => .exc e S9 | .bad => .bad) | .val (.bl false) => .ok (.val (.bl false)) S3 | _ => .bad) | .exc e S9 => .exc e S9 | .bad => .bad) | .exc e S9 => .exc e S9 | .bad => .bad) | .exc e S9 => .exc e S9 | .bad => .bad) := rfl
end
section
variable {S : Store} {i j : Nat}
@[simp] theorem add_int {fr : Bool} {a b : Int} : fAdd fr (.val (.int a)) (.val (.int b)) S = .ok (.val (.int (a + b))) S := rfl
@[simp] theorem add_str {fr : Bool} {a b : Str} : fAdd fr (.val (.str a)) (.val (.str b)) S = if szOk (a.length + b.length) then .ok (.val (.str (a ++ b))) S else .bad := rfl
@[simp] theorem add_tup {fr : Bool} {a b : List D} : fAdd fr (.val (.tup a)) (.val (.tup b)) S = if szOk (a.length + b.length) then .ok (.val (.tup (a ++ b))) S else .bad := rfl
@[simp] theorem add_lst {fr : Bool} {a b : List D} : fAdd fr (.val (.lst a)) (.val (.lst b)) S = if szOk (a.length + b.length) then mkL fr (a ++ b) S else .bad := rfl
@[simp] theorem add_ref {fr : Bool} {b : List D} : fAdd fr (.ref i) (.val (.lst b)) S = (match asM S (.ref i) with | some a => if szOk (a.length + b.length) then mkL fr (a ++ b) S else .bad | none => .bad) := by
  show (match asM S (.ref i), (some b : Option (List D)) with | some a, some b => if szOk (a.length + b.length) then mkL fr (a ++ b) S else .bad | _, _ => .bad) = _
  cases h : asM S (.ref i) <;> rfl
@[simp] theorem mul_int {fr : Bool} {a b : Int} : fMul fr (.val (.int a)) (.val (.int b)) S = if mulOk a b then .ok (.val (.int (a * b))) S else .bad := rfl
@[simp] theorem mul_tup {fr : Bool} {a : List D} {k : Int} : fMul fr (.val (.tup a)) (.val (.int k)) S = if decide (k = 1) then .ok (.val (.tup a)) S else if !a.isEmpty && decide (2 ≤ k) && decide (k ≤ 1000) && decide (a.length ≤ 1000) then .ok (.val (.tup (List.replicate k.toNat a).flatten)) S else .bad := rfl
@[simp] theorem mul_lst {fr : Bool} {a : List D} {k : Int} : fMul fr (.val (.lst a)) (.val (.int k)) S = if decide (-1000000 ≤ k) && decide (k ≤ 1000000) && szOk (a.length * k.toNat) then mkL fr (List.replicate k.toNat a).flatten S else .bad := rfl
@[simp] theorem i2_int {c : Int → Int → Bool} {g : Int → Int → D} {a b : Int} : fI2 c g (.val (.int a)) (.val (.int b)) S = if c a b then .ok (.val (g a b)) S else .bad := rfl
@[simp] theorem ix_str {s : Str} {k : Int} : fIx (.val (.str s)) (.val (.int k)) S = if szOk s.length then (match (ixN s.cps.toList.length k).bind fun j => s.cps.toList[j]? with
      | some c => .ok (.val (.str ⟨#[c]⟩)) S
      | none => .bad) else .bad := rfl
@[simp] theorem ix_tup' {ds : List D} {k : Int} : fIx (.val (.tup ds)) (.val (.int k)) S = (match (ixN ds.length k).bind fun j => ds[j]? with
      | some d => .ok (.val d) S
      | none => .bad) := rfl
@[simp] theorem ix_lst {ds : List D} {k : Int} : fIx (.val (.lst ds)) (.val (.int k)) S = (match (ixN ds.length k).bind fun j => ds[j]? with
      | some d => .ok (.val d) S
      | none => .bad) := rfl
@[simp] theorem ix_ro {ds : List D} {k : Int} : fIx (.val (.ro ds)) (.val (.int k)) S = (match (ixN ds.length k).bind fun j => ds[j]? with
      | some d => .ok (.val d) S
      | none => .bad) := rfl
@[simp] theorem ix_ref {k : Int} : fIx (.ref i) (.val (.int k)) S = (match asL S (.ref i) with
      | some ds => (match (ixN ds.length k).bind fun j => ds[j]? with
        | some d => .ok (.val d) S
        | none => .bad)
      | none => .bad) := rfl
@[simp] theorem len_str {s : Str} : fLen [.val (.str s)] S = if szOk s.length then .ok (.val (.int s.length)) S else .bad := rfl
@[simp] theorem len_tup {ds : List D} : fLen [.val (.tup ds)] S = .ok (.val (.int ds.length)) S := rfl
@[simp] theorem len_lst {ds : List D} : fLen [.val (.lst ds)] S = .ok (.val (.int ds.length)) S := rfl
@[simp] theorem len_ro {ds : List D} : fLen [.val (.ro ds)] S = .ok (.val (.int ds.length)) S := rfl
@[simp] theorem tuple_tup {ds : List D} : fTuple [.val (.tup ds)] S = .ok (.val (.tup ds)) S := rfl
@[simp] theorem tuple_lst {ds : List D} : fTuple [.val (.lst ds)] S = .ok (.val (.tup ds)) S := rfl
@[simp] theorem all_lst {ds : List D} : fAll [.val (.lst ds)] S = (match boolsOf ds with
      | some bs => .ok (.val (.bl (bs.all id))) S
      | none => .bad) := rfl
@[simp] theorem any_lst {ds : List D} : fAny [.val (.lst ds)] S = (match boolsOf ds with
      | some bs => .ok (.val (.bl (bs.any id))) S
      | none => .bad) := rfl
@[simp] theorem str_int {k : Int} : fStr [.val (.int k)] S = if decide (k.natAbs.log2 < 1920) then .ok (.val (.str (toString k : String))) S else .bad := rfl
@[simp] theorem int_int {k : Int} : fInt [.val (.int k)] S = .ok (.val (.int k)) S := rfl
@[simp] theorem int_str {s : Str} : fInt [.val (.str s)] S = (match PySem.intText? s with
    | some n => if decide (s.length ≤ 640) then .ok (.val (.int n)) S else .bad
    | none => .bad) := rfl
@[simp] theorem abs_int {k : Int} : fAbs [.val (.int k)] S = .ok (.val (.int (if k < 0 then -k else k))) S := rfl
@[simp] theorem max_int {a b : Int} : fMax2 [.val (.int a), .val (.int b)] S = .ok (.val (.int (if b > a then b else a))) S := rfl
@[simp] theorem min_int {a b : Int} : fMin2 [.val (.int a), .val (.int b)] S = .ok (.val (.int (if b < a then b else a))) S := rfl
@[simp] theorem dm_int {a b : Int} : fDivmod [.val (.int a), .val (.int b)] S = if decide (0 < b) && decide (b < 1073741824) then .ok (.val (.tup [.int (a / b), .int (a % b)])) S else .bad := rfl
@[simp] theorem app_ref {d : D} : fAppend (.ref i) [.val d] S = (match S[i]? with
    | some (.lst ds) => if szOk ds.length then .ok (.val .non) (S.set i (.lst (ds ++ [d]))) else .bad
    | _ => .bad) := rfl
@[simp] theorem withO_n {ρ : Slots} {f : Option Int → Store → Res} : withO none ρ S f = f none S := rfl
@[simp ↓] theorem withO_s {ρ : Slots} {c : CE} {f : Option Int → Store → Res} : withO (some c) ρ S f = (match c ρ S with | .ok x S1 => (match x with | .val (.int i) => f (some i) S1 | _ => .bad) | .exc e S9 => .exc e S9 | .bad => .bad) := rfl
@[simp] theorem sl_str {fr : Bool} {s : Str} {l u : Option Int} : slD fr (.val (.str s)) l u S = if szOk s.length then .ok (.val (.str (cutS s l u))) S else .bad := rfl
@[simp] theorem sl_tup {fr : Bool} {ds : List D} {l u : Option Int} : slD fr (.val (.tup ds)) l u S = .ok (.val (.tup (cutD ds l u))) S := rfl
@[simp] theorem sl_lst {fr : Bool} {ds : List D} {l u : Option Int} : slD fr (.val (.lst ds)) l u S = mkL fr (cutD ds l u) S := rfl
@[simp] theorem sl_ro {fr : Bool} {ds : List D} {l u : Option Int} : slD fr (.val (.ro ds)) l u S = mkL fr (cutD ds l u) S := rfl
@[simp] theorem ixN_lit0 {n : Nat} : ixN (n + 1) 0 = some 0 := by unfold ixN; rw [if_pos (by omega), if_pos (by omega)]; rfl
@[simp] theorem ixN_lit1 {n : Nat} : ixN (n + 2) 1 = some 1 := by unfold ixN; rw [if_pos (by omega), if_pos (by omega)]; rfl
@[simp] theorem ixN_lit2 {n : Nat} : ixN (n + 3) 2 = some 2 := by unfold ixN; rw [if_pos (by omega), if_pos (by omega)]; rfl
theorem ixN_nat {n k : Nat} (h : k < n) : ixN n (k : Int) = some k := by unfold ixN; rw [if_pos (by omega), if_pos (by omega)]; rfl
theorem ixN_int {n : Nat} {k : Int} (h0 : 0 ≤ k) (h : k < n) : ixN n k = some k.toNat := by unfold ixN; rw [if_pos h0, if_pos h]
end
section
variable {S : Store} {ρ : Slots} {d : D} {ds : List D} {i : Nat} {xs : List A} {a b : Str} {k : Int} {x : A}
@[simp] theorem vo_nil : valsOf [] = some [] := rfl
@[simp] theorem vo_val : valsOf (.val d :: xs) = (valsOf xs).map (d :: ·) := rfl
@[simp] theorem vo_ref : valsOf (.ref i :: xs) = none := rfl
@[simp] theorem asL_lst : asL S (.val (.lst ds)) = some ds := rfl
@[simp] theorem asL_ro : asL S (.val (.ro ds)) = some ds := rfl
@[simp] theorem asL_ref : asL S (.ref i) = (match S[i]? with | some (.lst ds) => some ds | _ => none) := rfl
@[simp] theorem asL_tup : asL S (.val (.tup ds)) = none := rfl
@[simp] theorem asL_str : asL S (.val (.str a)) = none := rfl
@[simp] theorem asL_int : asL S (.val (.int k)) = none := rfl
@[simp] theorem asL_non : asL S (.val .non) = none := rfl
@[simp] theorem asM_lst : asM S (.val (.lst ds)) = some ds := rfl
@[simp] theorem asM_ref : asM S (.ref i) = (match S[i]? with | some (.lst ds) => some ds | _ => none) := rfl
@[simp] theorem tru_non : tru S (.val .non) = some false := rfl
@[simp] theorem tru_bl {c : Bool} : tru S (.val (.bl c)) = some c := rfl
@[simp] theorem tru_int : tru S (.val (.int k)) = some (k != 0) := rfl
@[simp] theorem tru_str : tru S (.val (.str a)) = if szOk a.length then some (a.length != 0) else none := rfl
@[simp] theorem tru_tup : tru S (.val (.tup ds)) = some (!ds.isEmpty) := rfl
@[simp] theorem tru_lst : tru S (.val (.lst ds)) = some (!ds.isEmpty) := rfl
@[simp] theorem tru_ro : tru S (.val (.ro ds)) = some (!ds.isEmpty) := rfl
@[simp] theorem tru_ref : tru S (.ref i) = (match asL S (.ref i) with | some ds => some (!ds.isEmpty) | none => none) := rfl
@[simp] theorem wipe_nil : wipeR ρ [] = ρ := rfl
@[simp] theorem wipe_cons {v : Nat} {vs : List Nat} : wipeR ρ (v :: vs) = (wipeR ρ vs).set v none := rfl
@[simp] theorem ret_nx : retF (.nx ρ S) = .ok (.val .non) S := rfl
@[simp] theorem ret_rt : retF (.rt x S) = .ok x S := rfl
@[simp] theorem ret_exc {e : X0} : retF (.exc e ρ S) = .exc e S := rfl
@[simp] theorem ret_bad : retF .bad = .bad := rfl
@[simp] theorem pick_nil : pick xs [] = some [] := rfl
@[simp] theorem pick_cons {r : List Nat} : pick xs (i :: r) = (match xs[i]?, pick xs r with | some x, some t => some (x :: t) | _, _ => none) := rfl
@[simp] theorem tyD_non : tyD S (.val .non) = some "NoneType" := rfl
@[simp] theorem tyD_bl {c : Bool} : tyD S (.val (.bl c)) = some "bool" := rfl
@[simp] theorem tyD_int : tyD S (.val (.int k)) = some "int" := rfl
@[simp] theorem tyD_str : tyD S (.val (.str a)) = some "str" := rfl
@[simp] theorem tyD_tup : tyD S (.val (.tup ds)) = some "tuple" := rfl
@[simp] theorem tyD_lst : tyD S (.val (.lst ds)) = some "list" := rfl
@[simp] theorem tyD_ro : tyD S (.val (.ro ds)) = some "list" := rfl
@[simp] theorem subT_eq {t T : String} : subT t T = (t == T || (t == "bool" && T == "int")) := rfl
@[simp] theorem tyL_eq : tyL x S = (asL S x).isSome := rfl
@[simp] theorem tyS_str : tyS (.val (.str a)) S = true := rfl
@[simp] theorem getAll_nil : getAll S [] = some [] := rfl
@[simp] theorem getAll_cons {r : List Nat} : getAll S (i :: r) = (match S[i]?, getAll S r with | some o, some t => some (o :: t) | _, _ => none) := rfl
@[simp] theorem refs_nil : refsOf [] = [] := rfl
@[simp] theorem refs_ref : refsOf (.ref i :: xs) = i :: refsOf xs := rfl
@[simp] theorem refs_val : refsOf (.val d :: xs) = refsOf xs := rfl
@[simp] theorem renum_nil {n : Nat} : renum n [] = [] := rfl
@[simp] theorem renum_ref {n : Nat} : renum n (.ref i :: xs) = .ref n :: renum (n + 1) xs := rfl
@[simp] theorem renum_val {n : Nat} : renum n (.val d :: xs) = .val d :: renum n xs := rfl
@[simp] theorem bo_nil : boolsOf [] = some [] := rfl
@[simp] theorem bo_cons {c : Bool} : boolsOf (.bl c :: ds) = (boolsOf ds).map (c :: ·) := rfl
@[simp] theorem io_nil : intsOf [] = some [] := rfl
@[simp] theorem io_cons : intsOf (.int k :: ds) = (intsOf ds).map (k :: ·) := rfl
@[simp] theorem so_nil : strsOf [] = some [] := rfl
@[simp] theorem so_cons : strsOf (.str a :: ds) = (strsOf ds).map (a :: ·) := rfl
end
end T3
namespace T3
open PySem PySem.Spec PyProof.Rows L2
/-! ### a walk over a list of the store: it is looked at anew at every turn -/
noncomputable def forR (b : D → CS) (j : Nat) : Nat → Nat → CS
  | 0, _, _, _ => .bad
  | n + 1, i, ρ, S => match S[j]? with
    | some (.lst ds) => (match ds[i]? with
      | none => .nx ρ S
      | some d => (match b d ρ S with
        | .nx ρ' S' => forR b j n (i + 1) ρ' S'
        | .ct ρ' S' => forR b j n (i + 1) ρ' S'
        | .bk ρ' S' => .nx ρ' S'
        | q => q))
    | _ => .bad
noncomputable def lenAt (S : Store) (j : Nat) : Nat := match S[j]? with
  | some (.lst ds) => ds.length
  | _ => 0
noncomputable def sForV (c : CE) (t : CT) (b : CS) : CS := fun ρ S => match c ρ S with
  | .ok (.ref j) S1 => forR (lb t b) j (lenAt S1 j + 1) 0 ρ S1
  | _ => sFor (ciV c) t b ρ S
noncomputable def lcR (f : Elm) (j : Nat) : Nat → Nat → Store → Option (List D × Store)
  | 0, _, _ => none
  | n + 1, i, S => match S[j]? with
    | some (.lst ds) => (match ds[i]? with
      | none => some ([], S)
      | some d => (match f d S with
        | some (some y, S') => (match lcR f j n (i + 1) S' with
          | some (ys, S2) => some (y :: ys, S2)
          | none => none)
        | some (none, S') => lcR f j n (i + 1) S'
        | none => none))
    | _ => none
noncomputable def cLcV (fr : Bool) (vs : List Nat) (c : CE) (t : CT) (ct ce : CE) : CE := fun ρ S => match c ρ S with
  | .ok (.ref j) S1 => (match lcR (elm t ct ce (wipeR ρ vs)) j (lenAt S1 j + 1) 0 S1 with
    | some (ds, S2) => if szOk ds.length then mkL fr ds S2 else .bad
    | none => .bad)
  | _ => cLc fr vs (ciV c) t ct ce ρ S
section
variable {X : Cx} {cl : ClT} {W : WX}
theorem pre_step {H H' : Hp} {m m' : List Addr} (s : Step H m H' m') {i : Nat} {a : Addr} (h : m[i]? = some a) : m'[i]? = some a := by
  obtain ⟨r, rfl, _⟩ := s.ext
  rw [List.getElem?_append_left (List.getElem?_eq_some_iff.mp h).1]
  exact h
/-- the reading where the source is a list of the store -/
noncomputable def tRef (K : PySem.W.Frag) (cl : ClT) (W : WX) (c : CE) : TI := fun σ H R => ∃ B m S ρ j S1, Ok K cl B H m S ∧ EnvOk K cl (NN B m) H m σ ρ ∧ c ρ S = .ok (.ref j) S1 ∧ (∃ ds, S1[j]? = some (.lst ds)) ∧
  ∀ H' m' a, Step H m H' m' → Ok K cl B H' m' S1 → m'[j]? = some a → R (Itl K a) H'
noncomputable def tMV (K : PySem.W.Frag) (cl : ClT) (W : WX) (c : CE) : TI := fun σ H R => tMI K cl W (ciV c) σ H R ∨ tRef K cl W c σ H R
theorem tRef_ok {c : CE} {σ : L2.St} {H : Hp} {R : It → Hp → Prop} (h : tRef X.K cl W c σ H R) : iList X.K (tM X.K cl W c) σ H R := by
  obtain ⟨B, m, S, ρ, j, S1, o, e, hc, ⟨ds, hs⟩, k⟩ := h
  refine ⟨B, m, S, ρ, o, e, ?_⟩
  rw [hc]
  intro v H1 m1 s1 o1 r1
  obtain ⟨a, ha, rfl⟩ := r1
  obtain ⟨xs, e1, _⟩ := o1.obj j a _ ha hs
  exact ⟨a, rfl, ⟨xs, .of e1⟩, k H1 m1 a s1 o1 ha⟩
theorem pi_vv {tg e : Expr} {c : CE} (he : PE X e (tM X.K cl W c)) : PI X tg e (tMV X.K cl W c) :=
  PI.or (pi_v he) (PI.imp (pi_list he) fun _ _ _ h => tRef_ok h)
theorem at_ref {B : Addr → Prop} {H : Hp} {m : List Addr} {S : Store} {j : Nat} {a : Addr} {ds : List D} (o : Ok X.K cl B H m S) (ha : m[j]? = some a) (hs : S[j]? = some (.lst ds)) : ∃ xs, SqL X.K H a xs ∧ RepL X.K cl (NN B m) H xs ds ∧ H a = some (.lst xs) := by
  obtain ⟨xs, e1, r⟩ := o.obj j a _ ha hs
  exact ⟨xs, .of e1, r, e1⟩
theorem tForV_ok {c : CE} {g : TG} {t : CT} {b : CS} (hg : TgOk X.K cl g t) {E : Ends} {σ : L2.St} {H : Hp} (h : tMS X.K cl W (sForV c t b) E σ H) : tFor (tMV X.K cl W c) g (tMS X.K cl W b) E σ H := by
  have h0 := h
  obtain ⟨B, m, S, ρ, o, e, fin⟩ := h
  unfold sForV at fin
  split at fin
  rotate_left
  · have h1 : tMS X.K cl W (sFor (ciV c) t b) E σ H := ⟨B, m, S, ρ, o, e, fin⟩
    exact .inl (tFor_ok hg h1)
  · rename_i j S1 hc
    have hds : ∃ ds, S1[j]? = some (.lst ds) := by
      unfold forR at fin
      split at fin
      · rename_i ds hs
        exact ⟨ds, hs⟩
      · exact fin.elim
    refine .inr ⟨B, m, S, ρ, j, S1, o, e, hc, hds, fun H1 m1 a s1 o1 ha => ?_⟩
    refine ⟨fun i n σ H => ∃ m S ρ, Ok X.K cl B H m S ∧ EnvOk X.K cl (NN B m) H m σ ρ ∧ m[j]? = some a ∧ FinS X.K cl B H m W (forR (lb t b) j n i ρ S) E,
      ⟨lenAt S1 j + 1, m1, S1, ρ, o1, s1.env o e, ha, FinS.step s1 fin⟩, ?_⟩
    rintro i n σ2 H2 ⟨m2, S2, ρ2, o2, e2, ha2, f2⟩
    cases n with
    | zero => exact f2.elim
    | succ n =>
      unfold forR at f2
      split at f2
      rotate_left
      · exact f2.elim
      · rename_i ds hs
        obtain ⟨xs, q, rl, ea⟩ := at_ref o2 ha2 hs
        split at f2
        · rename_i hi
          refine .inl ⟨⟨xs, q, ?_⟩, f2.here o2 e2⟩
          rw [rl.length]
          exact List.getElem?_eq_none_iff.mp hi
        · rename_i d hd
          obtain ⟨v, hv, rv⟩ := rl.got hd
          refine .inr ⟨⟨xs, v, q, hv⟩, fun σ H => ∃ m S ρ, Ok X.K cl B H m S ∧ EnvOk X.K cl (NN B m) H m σ ρ ∧ m[j]? = some a ∧ FinS X.K cl B H m W (forR (lb t b) j n (i + 1) ρ S) E,
            fun σ' H' hn => ⟨n, Nat.lt_succ_self n, hn⟩, fun y H3 hy => ?_⟩
          obtain ⟨rfl, hy⟩ := hy
          have ey := hy xs q
          rw [hv] at ey
          cases ey
          cases ht : t (.val d) ρ2 S2 with
          | none =>
            have hb : lb t b d ρ2 S2 = .bad := by show (match t (.val d) ρ2 S2 with | some (ρ', S') => b ρ' S' | none => .bad) = _; rw [ht]
            rw [hb] at f2
            exact f2.elim
          | some z =>
            obtain ⟨ρ4, S4⟩ := z
            have hb : lb t b d ρ2 S2 = b ρ4 S4 := by show (match t (.val d) ρ2 S2 with | some (ρ', S') => b ρ' S' | none => .bad) = _; rw [ht]
            rw [hb] at f2
            refine hg (x := .val d) o2 e2 rv ht fun σ4 H4 m4 s4 o4 e4 => ⟨B, m4, S4, ρ4, o4, e4, ?_⟩
            have f4 := FinS.step s4 f2
            have ha4 := pre_step s4 ha2
            cases hr : b ρ4 S4 with
            | bad => rw [hr] at f4; exact f4
            | exc e' ρ' S' => rw [hr] at f4; exact f4
            | rt x S' => rw [hr] at f4; exact f4
            | nx ρ' S' => rw [hr] at f4; exact fun σ' H' m' s' o' e' => ⟨m', S', ρ', o', e', pre_step s' ha4, FinS.step s' f4⟩
            | ct ρ' S' => rw [hr] at f4; exact fun σ' H' m' s' o' e' => ⟨m', S', ρ', o', e', pre_step s' ha4, FinS.step s' f4⟩
            | bk ρ' S' => rw [hr] at f4; exact fun σ' H' m' s' o' e' => f4 σ' H' m' s' o' e'
theorem pm_forV {tg iter : Expr} {body : List Stmt} {c : CE} {g : TG} {t : CT} {b : CS} {pos : Pos} (hp : PassesOwn (model X.prog X.w) X.A X.env X.xe) (hc : X.calm = true) (he : PE X iter (tM X.K cl W c)) (hg : PG X tg g) (ht : TgOk X.K cl g t) (hb : PSs X body (tMS X.K cl W b))
    (hs : ∀ x, foldedSetIterable iter X.env x = pure x := by intro _; rfl) : PS X (.For tg iter body [] pos) (tMS X.K cl W (sForV c t b)) := PS.imp (ps_for hp hc (pi_vv he) hg hb hs) fun _ _ _ h => tForV_ok ht h
theorem tLcV_ok {fr : Bool} {vs : List Nat} {c : CE} {g : TG} {t : CT} {ct ce : CE} (hg : TgC X.K cl vs g t) {tt : TT} (htt : ∀ σ H Q, tMT X.K cl W0 ct σ H Q → tt σ H Q) {σ : L2.St} {H : Hp} {Q : VK} (h : tM X.K cl W (cLcV fr vs c t ct ce) σ H Q) :
    tLc (tMV X.K cl W c) g tt (tM X.K cl W0 ce) vs σ H Q := by
  obtain ⟨B, m, S, ρ, o, e, fin⟩ := h
  unfold cLcV at fin
  split at fin
  rotate_left
  · have h1 : tM X.K cl W (cLc fr vs (ciV c) t ct ce) σ H Q := ⟨B, m, S, ρ, o, e, fin⟩
    exact .inl (tLc_ok hg htt h1)
  rename_i j S1 hcj
  split at fin
  rotate_left
  · exact fin.elim
  rename_i ds S2 hgo
  split at fin
  rotate_left
  · exact fin.elim
  rename_i hz
  have hds : ∃ ds, S1[j]? = some (.lst ds) := by
    unfold lcR at hgo
    split at hgo
    · rename_i ds hs
      exact ⟨ds, hs⟩
    · cases hgo
  refine .inr ⟨B, m, S, ρ, j, S1, o, e, hcj, hds, fun H1 m1 a s1 o1 ha => ?_⟩
  intro D hD
  have fin1 := Fin.step s1 fin
  have hB : ¬ B D := fun z => (o1.foreign D z).1 hD
  have e1 := s1.env o e
  have e1' : EnvOk X.K cl (NN (BD B D) m1) (upd H1 D (.lst [])) m1 σ ρ := e1.mono (Kp.born hD) ⟨[], by simp⟩
  refine ⟨fun i n H => ∃ m S acc av rest, Step H1 m1 H m ∧ Ok X.K cl (BD B D) H m S ∧ EnvOk X.K cl (NN (BD B D) m) H m σ ρ ∧ m[j]? = some a ∧ H D = some (.lst av) ∧ RepL X.K cl (NN (BD B D) m) H av acc ∧
      lcR (elm t ct ce (wipeR ρ vs)) j n i S = some (rest, S2) ∧ ds = acc ++ rest,
    ⟨lenAt S1 j + 1, m1, S1, [], [], ds, Step.new hD, o1.born hD, e1', ha, upd_same, .nil, hgo, rfl⟩, ?_⟩
  rintro i n H2 ⟨m2, S3, acc, av, rest, st2, o2, e2, ha2, hd2, ra2, go2, eds⟩
  cases n with
  | zero => cases go2
  | succ n =>
  unfold lcR at go2
  split at go2
  rotate_left
  · cases go2
  rename_i ys hs
  obtain ⟨xs, q, rl, ea⟩ := at_ref o2 ha2 hs
  split at go2
  · rename_i hi
    cases go2
    rw [List.append_nil] at eds
    subst eds
    refine .inl ⟨⟨xs, q, ?_⟩, born_end hD st2 o2 hd2 ra2 hB fin1⟩
    rw [rl.length]
    exact List.getElem?_eq_none_iff.mp hi
  rename_i d hd
  obtain ⟨v, hv, r3⟩ := rl.got hd
  refine .inr ⟨⟨xs, v, q, hv⟩, fun H => ∃ m S acc av rest, Step H1 m1 H m ∧ Ok X.K cl (BD B D) H m S ∧ EnvOk X.K cl (NN (BD B D) m) H m σ ρ ∧ m[j]? = some a ∧ H D = some (.lst av) ∧ RepL X.K cl (NN (BD B D) m) H av acc ∧
      lcR (elm t ct ce (wipeR ρ vs)) j n (i + 1) S = some (rest, S2) ∧ ds = acc ++ rest, fun H' hn => ⟨n, Nat.lt_succ_self n, hn⟩, fun y H3 hy => ?_⟩
  obtain ⟨rfl, hy⟩ := hy
  have ey := hy xs q
  rw [hv] at ey
  cases ey
  have hDm : D ∉ m2 := (o2.foreign D (.inr rfl)).2
  have he : ∃ ρ4, t (.val d) (wipeR ρ vs) S3 = some (ρ4, S3) ∧ ((∃ y S5 S6 zs, ct ρ4 S3 = .ok (.val (.bl true)) S5 ∧ ce ρ4 S5 = .ok (.val y) S6 ∧ lcR (elm t ct ce (wipeR ρ vs)) j n (i + 1) S6 = some (zs, S2) ∧ rest = y :: zs) ∨
      ∃ S5, ct ρ4 S3 = .ok (.val (.bl false)) S5 ∧ lcR (elm t ct ce (wipeR ρ vs)) j n (i + 1) S5 = some (rest, S2)) ∨ ∃ ρ4 S4, t (.val d) (wipeR ρ vs) S3 = some (ρ4, S4) ∧ S4 ≠ S3 := by
    have go3 : (∃ y S' zs, elm t ct ce (wipeR ρ vs) d S3 = some (some y, S') ∧ lcR (elm t ct ce (wipeR ρ vs)) j n (i + 1) S' = some (zs, S2) ∧ rest = y :: zs) ∨ ∃ S', elm t ct ce (wipeR ρ vs) d S3 = some (none, S') ∧ lcR (elm t ct ce (wipeR ρ vs)) j n (i + 1) S' = some (rest, S2) := by
      split at go2
      · rename_i y S' h1
        split at go2
        · rename_i zs S5 h2
          cases go2
          exact .inl ⟨y, S', zs, h1, h2, rfl⟩
        · cases go2
      · rename_i S' h1
        exact .inr ⟨S', h1, go2⟩
      · cases go2
    rcases go3 with ⟨y, S', zs, h1, h2, h3⟩ | ⟨S', h1, h2⟩
    all_goals
      unfold elm at h1
      cases ht : t (.val d) (wipeR ρ vs) S3 with
      | none => rw [ht] at h1; cases h1
      | some q =>
        obtain ⟨ρ4, S4⟩ := q
        rw [ht] at h1
        dsimp only at h1
        by_cases hS : S4 = S3
        · subst hS
          refine ⟨ρ4, .inl ⟨rfl, ?_⟩⟩
          cases hc : ct ρ4 S4 with
          | bad => rw [hc] at h1; cases h1
          | exc _ _ => rw [hc] at h1; cases h1
          | ok x S5 =>
            rw [hc] at h1
            cases x with
            | ref _ => cases h1
            | val z =>
              cases z with
              | bl b =>
                cases b with
                | true =>
                  dsimp only at h1
                  cases hv : ce ρ4 S5 with
                  | bad => rw [hv] at h1; cases h1
                  | exc _ _ => rw [hv] at h1; cases h1
                  | ok w S6 =>
                    rw [hv] at h1
                    cases w with
                    | ref _ => cases h1
                    | val w => first | (cases h1; exact .inl ⟨_, S5, _, zs, rfl, hv, h2, h3⟩) | cases h1
                | false => first | (cases h1; exact .inr ⟨_, rfl, h2⟩) | cases h1
              | _ => cases h1
        · exact ⟨ρ4, .inr ⟨ρ4, S4, rfl, hS⟩⟩
  obtain ⟨ρ4, he⟩ := he
  rcases he with ⟨ht, he⟩ | ⟨ρ5, S4, ht, hne⟩
  rotate_left
  · exact hg (x := .val d) o2 (e2.wipe vs) r3 ht fun σ' _ q _ => absurd q hne
  refine hg (x := .val d) o2 (e2.wipe vs) r3 ht fun σ4 w4 _ e4 => ⟨w4.trans (wipe_wipe fun i h => h), ?_⟩
  rcases he with ⟨y, S5, S6, zs, hc, hv, hgo', hr⟩ | ⟨S5, hc, hgo'⟩
  · refine htt _ _ _ ⟨BD B D, m2, S3, ρ4, o2, e4, ?_⟩
    rw [hc]
    intro H5 m5 s5 o5
    refine iteT ⟨BD B D, m5, S5, ρ4, o5, s5.env o2 e4, ?_⟩
    rw [hv]
    intro u H6 m6 s6 o6 r6
    have s56 := s5.trans s6
    have hD6 : D ∉ m6 := (o6.foreign D (.inr rfl)).2
    have hd6 : H6 D = some (.lst av) := s56.kept D _ hd2 hDm
    have kp6 : Kp (NN (BD B D) m2) (NN (BD B D) m6) H3 H6 := s56.kp fun a h => (o2.foreign a h).2
    have ex6 : ∃ r, m6 = m2 ++ r := let ⟨r, h, _⟩ := s56.ext; ⟨r, h⟩
    have ra6 := ra2.mono kp6
    have kg : Kp (NN (BD B D) m6) (NN (BD B D) m6) H6 (upd H6 D (.lst (av ++ [u]))) := kp_at (.inl (.inr rfl)) fun b hb => upd_ne hb
    have hlen : av.length < sizeLine := by
      rw [ra6.length]
      have := of_decide_eq_true hz
      rw [eds, List.length_append, hr, List.length_cons] at this
      exact Nat.lt_of_lt_of_le (by omega : acc.length < 16000000) (by decide)
    refine ⟨av, hd6, hlen, m6, S6, acc ++ [y], av ++ [u], zs, ?_, o6.grow hd6, (e2.mono kp6 ex6).mono kg ⟨[], by simp⟩, pre_step s56 ha2, upd_same, (ra6.append (.cons r6 .nil)).mono kg, hgo', by rw [eds, hr]; simp⟩
    have st6 := st2.trans s56
    refine ⟨st6.ext, fun a z hz hn nt => ?_, fun a hn => ?_⟩
    · rw [upd_ne fun q => by rw [q, hD] at hz; cases hz]; exact st6.keep a z hz hn nt
    · by_cases q : a = D
      · rw [q, upd_same]; exact fun z => by cases z
      · rw [upd_ne q]; exact st6.stay a hn
  · refine htt _ _ _ ⟨BD B D, m2, S3, ρ4, o2, e4, ?_⟩
    rw [hc]
    intro H5 m5 s5 o5
    have kp5 : Kp (NN (BD B D) m2) (NN (BD B D) m5) H3 H5 := s5.kp fun a h => (o2.foreign a h).2
    have ex5 : ∃ r, m5 = m2 ++ r := let ⟨r, h, _⟩ := s5.ext; ⟨r, h⟩
    exact iteF ⟨m5, S5, acc, av, rest, st2.trans s5, o5, e2.mono kp5 ex5, pre_step s5 ha2, s5.kept D _ hd2 hDm, ra2.mono kp5, hgo', eds⟩
theorem pm_lcV (fr : Bool) {elt tg iter : Expr} {ifs : List Expr} {scope : Scope} {own : List (Str × Nat)} {pos : Pos} {c : CE} {g : TG} {t : CT} {ct ce : CE} {tt : TT} (hc : X.calm = true) (hN : X.N.Nodup) (hi : PE X iter (tM X.K cl W c)) (ok : BlkOk X.N X.env.scope scope own)
    (hg : ∀ (s : Shared) (H : Hp) (C : Addr) (cl' : List (Str × Addr)) (fp : List Addr), PG (X.blk s H scope (compEnvC scope cl' C X.env) fp) tg g) (hgo : TgC X.K cl (own.map (·.2)) g t)
    (ht : ∀ (s : Shared) (H : Hp) (C : Addr) (cl' : List (Str × Addr)) (fp : List Addr), PTs (X.blk s H scope (compEnvC scope cl' C X.env) fp) ifs tt) (hto : ∀ σ H Q, tMT X.K cl W0 ct σ H Q → tt σ H Q)
    (he : ∀ (s : Shared) (H : Hp) (C : Addr) (cl' : List (Str × Addr)) (fp : List Addr), PE (X.blk s H scope (compEnvC scope cl' C X.env) fp) elt (tM X.K cl W0 ce)) (hs : ∀ x, foldedSetIterable iter X.env x = pure x := by intro _; rfl) :
    PE X (.ListComp elt [⟨tg, iter, ifs, 0⟩] scope pos) (tM X.K cl W (cLcV fr (own.map (·.2)) c t ct ce)) := PE.imp (pe_lc hc hN (pi_vv hi) ok hg ht he hs) fun _ _ _ h => tLcV_ok hgo hto h
theorem pm_setLcV (fr : Bool) (i : Nat) {y : Str} {py : Pos} {elt tg iter : Expr} {ifs : List Expr} {scope : Scope} {own : List (Str × Nat)} {pos spos : Pos} {c : CE} {g : TG} {t : CT} {ct ce : CE} {tt : TT} (hc : X.calm = true) (hN : X.N.Nodup)
    (hsw : swapsWith (.ListComp elt [⟨tg, iter, ifs, 0⟩] scope pos) (some (.Name y py)) spos.line X.env = pure true) (hi : PE X iter (tM X.K cl W c)) (ok : BlkOk X.N X.env.scope scope own)
    (hg : ∀ (s : Shared) (H : Hp) (C : Addr) (cl' : List (Str × Addr)) (fp : List Addr), PG (X.blk s H scope (compEnvC scope cl' C X.env) fp) tg g) (hgo : TgC X.K cl (own.map (·.2)) g t)
    (ht : ∀ (s : Shared) (H : Hp) (C : Addr) (cl' : List (Str × Addr)) (fp : List Addr), PTs (X.blk s H scope (compEnvC scope cl' C X.env) fp) ifs tt) (hto : ∀ σ H Q, tMT X.K cl W0 ct σ H Q → tt σ H Q)
    (he : ∀ (s : Shared) (H : Hp) (C : Addr) (cl' : List (Str × Addr)) (fp : List Addr), PE (X.blk s H scope (compEnvC scope cl' C X.env) fp) elt (tM X.K cl W0 ce)) (hs : ∀ x, foldedSetIterable iter X.env x = pure x := by intro _; rfl)
    (hy : X.N[i]? = some y := by rfl) (hyl : X.env.scope.names.lookup y = some .local := by rfl) :
    PS X (.Assign [.Name y py] (.ListComp elt [⟨tg, iter, ifs, 0⟩] scope pos) spos) (tMS X.K cl W (sAsg (tgName i) (cLcV fr (own.map (·.2)) c t ct ce))) :=
  PS.imp (ps_setLc hc hN hy hyl hsw (pi_vv hi) ok hg ht he hs) fun E σ H h => by
  obtain ⟨B, m, S, ρ, o, e, fin⟩ := h
  refine tLcV_ok hgo hto ⟨B, m, S, ρ, o, e, FinS.bind o e fin fun x S1 v H1 m1 s1 o1 e1 r1 f1 => ?_⟩
  exact f1 _ H1 m1 Step.refl o1 (e1.set i r1)
/-! ### list(range(n)) -/
noncomputable def cListR (fr : Bool) (c : CE) : CE := fun ρ S => match c ρ S with
  | .ok (.val (.int n)) S1 => if decide (0 ≤ n) && decide (n ≤ 1000000) then mkL fr (rangeD 0 n.toNat) S1 else .bad
  | .exc e S1 => .exc e S1
  | _ => .bad
theorem rep_rg {N : Addr → Prop} {H : Hp} {n : Int} : RepL X.K cl N H (rgV 0 n) (rangeD 0 n.toNat) := by
  unfold rgV rangeD
  rw [Int.sub_zero]
  generalize List.range n.toNat = l
  induction l with
  | nil => exact .nil
  | cons x r ih => exact .cons (.int _) ih
theorem pm_listR (fr : Bool) {e : Expr} {c : CE} {p p2 pos pos2 : Pos} (hm : X.mg "list" = none) (hm2 : X.mg "range" = none) (he : PE X e (tM X.K cl W c)) (hc : X.calm = true) (hg : Gl X "list" := by rfl) (hg2 : Gl X "range" := by rfl)
    (na : starEach [e] X.env = (false, eval e X.env) :: starEach [] X.env := by rfl) (na2 : starEach [.Call (.Name "range" p2) [e] [] pos2] X.env = (false, eval (.Call (.Name "range" p2) [e] [] pos2) X.env) :: starEach [] X.env := by rfl) :
    PE X (.Call (.Name "list" p) [.Call (.Name "range" p2) [e] [] pos2] [] pos) (tM X.K cl W (cListR fr c)) :=
  PE.imp (pe_listRg hc hg hm (prg_1 hg2 hm2 he na) na2) fun σ H Q h => by
  obtain ⟨B, m, S, ρ, o, en, fin⟩ := h
  refine ⟨B, m, S, ρ, o, en, ?_⟩
  unfold cListR at fin
  cases hc : c ρ S with
  | bad => rw [hc] at fin; exact fin
  | exc e' S1 => rw [hc] at fin; exact fin
  | ok x S1 =>
    rw [hc] at fin
    intro v H1 m1 s1 o1 r1
    cases x with
    | ref i => exact fin.elim
    | val d =>
      cases d with
      | int n =>
        cases r1
        dsimp only at fin
        split at fin
        · rename_i hz
          simp only [Bool.and_eq_true, decide_eq_true_eq] at hz
          exact ⟨n, rfl, .of_le (by omega) (by omega) (by omega) (by omega), fun q hq => mkL_ok o1 rep_rg hq (Fin.step s1 fin)⟩
        · exact fin.elim
      | _ => exact fin.elim
end
end T3
namespace T3
open PySem PySem.Spec PyProof.Rows L2
section
variable {X : Cx} {cl : ClT} {W : WX}
/-! ### t.index(x) -/
noncomputable def rTIndex (K : PySem.W.Frag) : V → List V → Hp → VK → Prop := fun x xs H Q => ∃ (a : Addr) (y : V) (d : PyData) (ds : List PyData) (j : Nat) (z : PyData), x = V.ref a ∧ xs = [y] ∧ Dp K H (V.ref a) (.tuple ds) ∧ Dp K H y d ∧
  SeqAt.shaped (.tuple ds) = true ∧ SeqAt.shaped d = true ∧ ds[j]? = some z ∧ PyData.eqv z d = true ∧ (∀ (m : Nat) (z' : PyData), m < j → ds[m]? = some z' → PyData.eqv z' d = false) ∧ Q (.int (j : Nat)) H
theorem mt_tindex (hu : X.A.units + 65 < cLine) : MtR X "tuple.index" (rTIndex X.K) := by
  intro pins s σ H x xs v us Q I rx rxs h
  obtain ⟨a, y, d, ds, j, z, rfl, rfl, hl, hy, sl, sd, hz, hzj, hno, q⟩ := h
  cases rx
  obtain ⟨uy, rfl, ry⟩ := vals1 rxs
  obtain ⟨bs, r1⟩ := Dp.reads I d y uy hy ry
  have hxs : PyData.canLayAll0 ds = true := SeqAt.canLay_of_shaped sl
  have hroom : X.A.units + 1 + min (PyData.depthAll ds) d.depth < cLine := room_in_shaped sd hu
  cases hl with
  | tup hs ha =>
    obtain ⟨its, rv, ⟨⟨cls, dd, data, sls⟩, ho, hc, n, hdt⟩, hlen⟩ := I.tuple hs
    simp only at hc hdt
    subst hc hdt
    obtain ⟨as, h4⟩ := Dp.readsAll I ds _ its ha rv
    have hn : its.length = ds.length := SeqAt.ReadsAll.length ds its as h4
    have hmap : its.map (SeqAt.readOf s.heap) = ds := SeqAt.readsAll_map ds its as hxs h4
    obtain ⟨hjd, _⟩ := List.getElem?_eq_some_iff.mp hz
    have hj : j < its.toArray.size := by rw [List.size_toArray]; omega
    have look : ∀ (m : Nat) (hm : m < its.toArray.size) (z' : PyData), ds[m]? = some z' → SeqAt.readOf s.heap its.toArray[m] = z' := by
      intro m hm z' hz'
      have hml : m < its.length := by simpa using hm
      rw [← hmap, List.getElem?_map, List.getElem?_eq_getElem hml] at hz'
      cases hz'
      simp
    refine call_meets PySem.F.slot_tuple_index ⟨_, ho, rfl⟩ PySem.F.entry_tuple_index (PySem.F.args_tuple_index_2 _ _)
      (TI.tuple_indexAt a its.toArray n dd sls uy (fun u => PyData.eqv (SeqAt.readOf s.heap u) d) j hj ?_ ?_) ⟨ho, SeqAt.items_eqAt (vs := its.toArray) (show ReadsAll s.heap its.toArray.toList ds as from h4) r1 hxs (SeqAt.canLay_of_shaped sd) hroom, ?_⟩
    · show PyData.eqv (SeqAt.readOf s.heap its.toArray[j]) d = true
      rw [look j hj z hz]
      exact hzj
    · intro m hm hmj
      have hmd : m < ds.length := by omega
      have hz' : ds[m]? = some ds[m] := List.getElem?_eq_getElem hmd
      show PyData.eqv (SeqAt.readOf s.heap its.toArray[m]) d = false
      rw [look m hm _ hz']
      exact hno m _ hmj hz'
    · exact ⟨.int (j : Nat), H, I.tok _, ⟨_, rfl⟩, q⟩
/-- a tuple that bears no dict -/
noncomputable def TupV (K : PySem.W.Frag) (x : V) (H : Hp) : Prop := ∃ a, x = .ref a ∧ ((∃ (ob : Obj) (xs : List V), H a = some (.frz ob (.tup xs)) ∧ ob.dict = none) ∨ ∃ o : Obj, K.lookup a = some o ∧ o.cls = .type "tuple" ∧ o.dict = none)
theorem tupV_is {pins : List (Addr × Obj)} {σ : L2.St} {H : Hp} {s : Shared} {x : V} {v : Value} (I : Inv X pins σ H s) (r : RelV x v) (ty : TupV X.K x H) : s.TypeIs v "tuple" ∧ ∀ a, v = .ref a → ∃ ob, s.heap.get? a = some ob ∧ ob.dict = none := by
  obtain ⟨a, rfl, h⟩ := ty
  cases (show v = Value.ref a from r)
  rcases h with ⟨ob, xs, e, hd⟩ | ⟨ob, e, hc, hd⟩
  · obtain ⟨g1, g2⟩ := (show s.heap.get? a = some ob ∧ ObjOk X.prog X.w H s.heap a (.tup xs) from I.hok a _ e)
    obtain ⟨_, _, _, o2, g3, g4, _⟩ := g2
    rw [g1] at g3
    cases g3
    exact ⟨⟨ob, g1, g4⟩, fun b z => by cases z; exact ⟨ob, g1, hd⟩⟩
  · have g1 := I.kIn a ob e
    exact ⟨⟨ob, g1, hc⟩, fun b z => by cases z; exact ⟨ob, g1, hd⟩⟩
noncomputable def tBMZ (K : PySem.W.Frag) (r : V → List V → Hp → VK → Prop) (to : TE) (t : TA) : TE := fun σ H Q => to σ H fun x H1 => TupV K x H1 ∧ t σ H1 fun xs H2 => r x xs H2 Q
theorem pe_bmZ {o e : Expr} {es : List Expr} {to : TE} {t : TA} {name : Str} {apos cpos : Pos} {id : String} {r : V → List V → Hp → VK → Prop} (slot : Slot "tuple" name id) (hty : typeOf (.builtin id) = pure (.type "method_descriptor")) (hm : MtR X id r) (ho : PE X o to) (ha : PA X (e :: es) t)
    (hbase : attributeBase o name X.env (eval o X.env) = eval o X.env := by rfl) (hfew : ((backTo cpos (starEach (e :: es) X.env)).all (fun x => !x.1) && (backToKw cpos (keywordEach [] X.env)).all (fun x => x.1.isSome)
      && decide ((e :: es).length + ([] : List Keyword).length + (if ([] : List Keyword).isEmpty then 0 else 1) < 30)) = true := by rfl)
    (hline : (apos.endLine == cpos.line) = true := by rfl) (hs : starEach (e :: es) X.env = (false, eval e X.env) :: starEach es X.env := by rfl) (hplain : (backTo cpos (starEach es X.env)).any (·.1) = false := by rfl) :
    PE X (.Call (.Attribute o name apos) (e :: es) [] cpos) (tBMZ X.K r to t) := by
  refine ⟨fun pins s σ H Q I h => wpAny_Call_method_late hbase hfew hline rfl (thn (ho.run pins s σ H _ I h) fun v s1 w => ?_)⟩
  obtain ⟨x, H1, I1, r1, ty, q1⟩ := w
  obtain ⟨h1, h2⟩ := tupV_is I1 r1 ty
  refine ⟨"tuple", id, PySem.F.plainAttrs_tuple, slot, hty, h1, h2, ?_⟩
  have hA := ha.run cpos pins s1 σ H1 _ I1 q1
  rw [hs] at hA ⊢
  have hz : (false || (backTo cpos (starEach es X.env)).any (·.1)) = false := by
    rw [hplain]
    rfl
  refine Calls.callWith_builtin hz (Calls.evalArgs_plain (thn hA fun us s2 w2 => ?_))
  obtain ⟨vs, H2, I2, r2, q2⟩ := w2
  exact hm pins s2 σ H2 x vs v us Q I2 r1 r2 q2
noncomputable def tyT : A → Store → Bool
  | .val (.tup _), _ => true
  | _, _ => false
theorem ty_tup {B : Addr → Prop} {H : Hp} {m : List Addr} {S : Store} {v : V} {x : A} (r : RepA X.K cl (NN B m) H m v x) (h : tyT x S = true) : TupV X.K v H := by
  cases x with
  | ref i => cases h
  | val d =>
    cases d <;> first | cases h | skip
    cases r with
    | tup ht _ =>
      rcases ht with ⟨ob, h1, hd, _⟩ | ⟨ob, its, n, h1, h2, h3, _⟩
      · exact ⟨_, rfl, .inl ⟨ob, _, h1, hd⟩⟩
      · exact ⟨_, rfl, .inr ⟨ob, h1, h2, h3⟩⟩
theorem tBMZ_ok {r : V → List V → Hp → VK → Prop} {f : A → List A → Store → Res} {c : CE} {ca : CA} (hf : MtOk X.K cl r f) {σ : L2.St} {H : Hp} {Q : VK} (h : tM X.K cl W (cMt tyT f c ca) σ H Q) : tBMZ X.K r (tM X.K cl W c) (tML X.K cl W ca) σ H Q := by
  obtain ⟨B, m, S, ρ, o, e, fin⟩ := h
  refine ⟨B, m, S, ρ, o, e, Fin.bind fin fun x S1 v H1 m1 s1 o1 r1 f1 => ?_⟩
  split at f1
  · rename_i ht
    refine ⟨ty_tup r1 ht, B, m1, S1, ρ, o1, s1.env o e, FinL.bind f1 fun xs S2 vs H2 m2 s2 o2 r2 f2 => ?_⟩
    exact hf o2 (s2.rep o1 r1) r2 f2
  · exact f1.elim
noncomputable def fTIndex (x : A) (xs : List A) (S : Store) : Res := match x, xs with
  | .val (.tup ds), [y] => (match cur S y with
    | some d => if shp d && shp (.tup ds) then (match findD d ds with
      | some j => .ok (.val (.int (j : Nat))) S
      | none => .bad) else .bad
    | _ => .bad)
  | _, _ => .bad
theorem ok_tindex : MtOk X.K cl (rTIndex X.K) fTIndex := by
  intro B H m S σ W v x vs xs Q o rx rs h
  unfold fTIndex at h
  split at h
  · rename_i ds y
    obtain ⟨w, rfl, r1⟩ := one_arg rs
    split at h
    · rename_i d h2
      split at h
      · rename_i hz
        simp only [Bool.and_eq_true] at hz
        split at h
        · rename_i j hj
          have rv : Rep X.K cl N0 H v (.tup ds) := Rep.weak (fun _ z => z.elim) rx
          have hl := Dp.of rv (shp_ok hz.2)
          obtain ⟨a, rfl⟩ : ∃ a, v = .ref a := by cases rv with | tup _ _ => exact ⟨_, rfl⟩
          obtain ⟨z, e1, e2, e3⟩ := find_ok (K := X.K) (shp_ok hz.1) (ds := ds) (shp_ok hz.2) hj
          exact ⟨a, w, toP d, toPL ds, j, z, rfl, rfl, hl, Dp.of (cur_ok o r1 h2) (shp_ok hz.1), shp_shaped hz.2, shp_shaped hz.1, e1, e2, e3, h.here o (.int _)⟩
        · exact h.elim
      · exact h.elim
    · exact h.elim
  · exact h.elim
theorem pm_tindex {o e : Expr} {c ce : CE} {apos cpos : Pos} (hu : X.A.units + 65 < cLine) (ho : PE X o (tM X.K cl W c)) (ha : PE X e (tM X.K cl W ce)) (hs1 : starEach [e] X.env = (false, eval e X.env) :: starEach [] X.env := by rfl)
    (hbase : attributeBase o "index" X.env (eval o X.env) = eval o X.env := by rfl) (hfew : ((backTo cpos (starEach [e] X.env)).all (fun x => !x.1) && (backToKw cpos (keywordEach [] X.env)).all (fun x => x.1.isSome)
      && decide ([e].length + ([] : List Keyword).length + (if ([] : List Keyword).isEmpty then 0 else 1) < 30)) = true := by rfl) (hline : (apos.endLine == cpos.line) = true := by rfl) (hplain : (backTo cpos (starEach [] X.env)).any (·.1) = false := by rfl) :
    PE X (.Call (.Attribute o "index" apos) [e] [] cpos) (tM X.K cl W (cMt tyT fTIndex c (cCons ce cNil))) :=
  PE.imp (pe_bmZ PySem.F.slot_tuple_index PySem.F.type_tuple_index (mt_tindex hu) ho (pm_cons ha pm_nil hs1) hbase hfew hline hs1 hplain) fun _ _ _ h => tBMZ_ok ok_tindex h
end
end T3
namespace T3
open PySem PySem.Spec PyProof.Rows L2
section
variable {ρ : Slots} {S : Store} {c : CE} {t : CT} {b : CS}
@[simp ↓] theorem ap_sForV : sForV c t b ρ S = (match c ρ S with | .ok (.ref j) S1 => forR (lb t b) j (lenAt S1 j + 1) 0 ρ S1 | .ok (.val (.lst ds)) S1 => forL (lb t b) ds ρ S1 | .ok (.val (.ro ds)) S1 => forL (lb t b) ds ρ S1 | .ok (.val (.tup ds)) S1 => forL (lb t b) ds ρ S1 | .ok (.val (.str s)) S1 => forL (lb t b) (signsD s) ρ S1 | .exc e S1 => .exc e ρ S1 | _ => .bad) := by
  unfold sForV sFor ciV
  cases h : c ρ S with
  | bad => rfl
  | exc e S1 => rfl
  | ok x S1 =>
    cases x with
    | ref j => rfl
    | val d => cases d <;> rfl
@[simp ↓] theorem ap_LcV {fr : Bool} {vs : List Nat} {ct ce : CE} : cLcV fr vs c t ct ce ρ S = (match (match c ρ S with | .ok (.ref j) S1 => (match lcR (elm t ct ce (wipeR ρ vs)) j (lenAt S1 j + 1) 0 S1 with | some r => IRes.ok r.1 r.2 | none => .bad) | .ok (.val (.lst ds)) S1 => (match lcGo (elm t ct ce (wipeR ρ vs)) ds S1 with | some r => IRes.ok r.1 r.2 | none => .bad) | .ok (.val (.ro ds)) S1 => (match lcGo (elm t ct ce (wipeR ρ vs)) ds S1 with | some r => IRes.ok r.1 r.2 | none => .bad) | .ok (.val (.tup ds)) S1 => (match lcGo (elm t ct ce (wipeR ρ vs)) ds S1 with | some r => IRes.ok r.1 r.2 | none => .bad) | .ok (.val (.str s)) S1 => (match lcGo (elm t ct ce (wipeR ρ vs)) (signsD s) S1 with | some r => IRes.ok r.1 r.2 | none => .bad) | .exc e S1 => .exc e S1 | _ => .bad) with | .ok ds S2 => (if szOk ds.length then mkL fr ds S2 else .bad) | .exc e S1 => .exc e S1 | .bad => .bad) := by
  have go : ∀ (ds : List D) (S1 : Store), (match lcGo (elm t ct ce (wipeR ρ vs)) ds S1 with
      | some (ds, S2) => if szOk ds.length then mkL fr ds S2 else .bad
      | none => .bad) = (match (match lcGo (elm t ct ce (wipeR ρ vs)) ds S1 with | some r => IRes.ok r.1 r.2 | none => .bad) with | .ok ds S2 => (if szOk ds.length then mkL fr ds S2 else .bad) | .exc e S1 => .exc e S1 | .bad => .bad) := fun ds S1 => by
    cases lcGo (elm t ct ce (wipeR ρ vs)) ds S1 <;> rfl
  unfold cLcV cLc ciV
  cases h : c ρ S with
  | bad => rfl
  | exc e S1 => rfl
  | ok x S1 =>
    cases x with
    | ref j =>
      show (match lcR (elm t ct ce (wipeR ρ vs)) j (lenAt S1 j + 1) 0 S1 with
        | some (ds, S2) => if szOk ds.length then mkL fr ds S2 else .bad
        | none => .bad) = _
      simp only
      cases lcR (elm t ct ce (wipeR ρ vs)) j (lenAt S1 j + 1) 0 S1 <;> rfl
    | val d => cases d <;> first | rfl | exact go _ S1
@[simp ↓] theorem ap_ListR {fr : Bool} : cListR fr c ρ S = (match c ρ S with | .ok (.val (.int n)) S1 => (if decide (0 ≤ n) && decide (n ≤ 1000000) then mkL fr (rangeD 0 n.toNat) S1 else .bad) | .exc e S1 => .exc e S1 | _ => .bad) := rfl
end
@[simp] theorem tyT_tup {ds : List D} {S : Store} : tyT (.val (.tup ds)) S = true := rfl
/-- the list stays: a walk over it is a walk over its data -/
theorem forR_q {body : D → CS} {j : Nat} {ds : List D} {ρ : Slots} {S : Store} {q : SRes} (hq : forR body j (lenAt S j + 1) 0 ρ S = q) (P : Nat → Slots → Store → Prop) (hP : ∀ i ρ S, P i ρ S → S[j]? = some (.lst ds)) (h0 : P 0 ρ S)
    (hs : ∀ i d ρ S, ds[i]? = some d → P i ρ S → ∃ ρ' S', body d ρ S = .nx ρ' S' ∧ P (i + 1) ρ' S') : ∃ ρ' S', q = .nx ρ' S' ∧ P ds.length ρ' S' := by
  have hl : lenAt S j = ds.length := by
    unfold lenAt
    rw [hP _ _ _ h0]
  have go : ∀ (n i : Nat) (ρ : Slots) (S : Store), n + i = ds.length + 1 → i ≤ ds.length → P i ρ S → ∃ ρ' S', forR body j n i ρ S = .nx ρ' S' ∧ P ds.length ρ' S' := by
    intro n
    induction n with
    | zero =>
      intro i ρ S hn hi hp
      omega
    | succ n ih =>
      intro i ρ S hn hle hp
      have hS := hP _ _ _ hp
      unfold forR
      rw [hS]
      simp only
      by_cases hi : i < ds.length
      · obtain ⟨ρ', S', e, p⟩ := hs i ds[i] ρ S (List.getElem?_eq_getElem hi) hp
        rw [List.getElem?_eq_getElem hi]
        simp only [e]
        exact ih (i + 1) ρ' S' (by omega) (by omega) p
      · have : i = ds.length := by omega
        subst this
        rw [List.getElem?_eq_none (Nat.le_refl _)]
        exact ⟨ρ, S, rfl, hp⟩
  rw [hl] at hq
  obtain ⟨ρ', S', e, p⟩ := go (ds.length + 1) 0 ρ S (by omega) (Nat.zero_le _) h0
  exact ⟨ρ', S', hq.symm.trans e, p⟩
theorem lcR_eq {f : Elm} {j : Nat} {ds : List D} {S : Store} (hS : S[j]? = some (.lst ds)) (hf : ∀ d ∈ ds, ∃ r, f d S = some (r, S)) : lcR f j (lenAt S j + 1) 0 S = lcGo f ds S := by
  have hl : lenAt S j = ds.length := by
    unfold lenAt
    rw [hS]
  have go : ∀ (n i : Nat), n + i = ds.length + 1 → i ≤ ds.length → lcR f j n i S = lcGo f (ds.drop i) S := by
    intro n
    induction n with
    | zero =>
      intro i hn hi
      omega
    | succ n ih =>
      intro i hn hle
      unfold lcR
      rw [hS]
      simp only
      by_cases hi : i < ds.length
      · obtain ⟨r, e⟩ := hf ds[i] (List.getElem_mem _)
        rw [List.getElem?_eq_getElem hi, List.drop_eq_getElem_cons hi]
        simp only [lcGo, e]
        cases r with
        | none => exact ih (i + 1) (by omega) (by omega)
        | some y =>
          simp only [ih (i + 1) (by omega) (by omega)] <;> cases lcGo f (List.drop (i + 1) ds) S <;> rfl
      · have : i = ds.length := by omega
        subst this
        rw [List.getElem?_eq_none (Nat.le_refl _), List.drop_length]
        rfl
  rw [hl]
  exact go (ds.length + 1) 0 (by omega) (Nat.zero_le _)
section
variable {S : Store} {i : Nat}
@[simp] theorem len_ref : fLen [.ref i] S = (match S[i]? with | some (.lst ds) => .ok (.val (.int ds.length)) S | _ => .bad) := by
  show (match asL S (.ref i) with | some ds => Res.ok (.val (.int ds.length)) S | none => .bad) = _
  simp only [asL]
  cases S[i]? with
  | none => rfl
  | some o => cases o <;> rfl
@[simp] theorem tuple_ref : fTuple [.ref i] S = (match S[i]? with | some (.lst ds) => .ok (.val (.tup ds)) S | _ => .bad) := by
  show (match asL S (.ref i) with | some ds => Res.ok (.val (.tup ds)) S | none => .bad) = _
  simp only [asL]
  cases S[i]? with
  | none => rfl
  | some o => cases o <;> rfl
end
end T3
namespace T3
open PySem PySem.Spec PyProof.Rows L2
theorem hu1 {k : Nat} {A : Around} (r : Room k A) : A.units + 1 < cLine := by have := r.un; omega
/-! ### xs[::-1] -/
noncomputable def cRev (fr : Bool) (c : CE) : CE := fun ρ S => (c ρ S).bind fun x S1 => match asL S1 x with
  | some ds => mkL fr ds.reverse S1
  | none => .bad
section
variable {X : Cx} {cl : ClT} {W : WX}
theorem pm_rev (fr : Bool) {e : Expr} {c : CE} {k : Nat} {p1 p2 p3 pos : Pos} (he : PE X e (tM X.K cl W c)) : PE X (.Subscript e (.Slice none none (some (.UnaryOp .USub (.Constant (.int 1) k p1) p2)) p3) pos) (tM X.K cl W (cRev fr c)) :=
  PE.imp (pe_revL he) fun σ H Q h => by
  obtain ⟨B, m, S, ρ, o, en, fin⟩ := h
  refine ⟨B, m, S, ρ, o, en, Fin.bind fin fun x S1 v H1 m1 s1 o1 r1 f1 => ?_⟩
  split at f1
  · rename_i ds hd
    obtain ⟨a, vs, rfl, q, rl⟩ := asL_ok o1 r1 hd
    exact ⟨a, vs, rfl, q, fun p hp => mkL_ok o1 rl.reverse hp f1⟩
  · exact f1.elim
/-! ### a tuple of texts that the top has made -/
noncomputable def strsV : List Value → Option (List Str)
  | [] => some []
  | .str s _ :: r => (strsV r).map (s :: ·)
  | _ :: _ => none
noncomputable def CnT (K : PySem.W.Frag) (mg : Str → Option Value) (nm : Str) (xs : List Str) : Prop := ∃ (a : Addr) (its : Array Value) (n : Nat) (sl : Array (Option Value)), mg nm = some (.ref a) ∧ K.lookup a = some ⟨.type "tuple", none, .seq its n, sl⟩ ∧ szOk its.size = true ∧ strsV its.toList = some xs
theorem cnT_mk {K : PySem.W.Frag} {mg : Str → Option Value} {h : Heap} {nm : Str} {xs : List Str} {a : Addr} {its : Array Value} {n : Nat} {sl : Array (Option Value)} (X : K.In h) (G : h.Ns mainGlobals mg) (q : PySem.W.nsIn K mainGlobals nm = some (some (.ref a)))
    (l : K.lookup a = some ⟨.type "tuple", none, .seq its n, sl⟩) (hz : szOk its.size = true) (hs : strsV its.toList = some xs) : CnT K mg nm xs := ⟨a, its, n, sl, PySem.W.mg_of X G q, l, hz, hs⟩
theorem strsV_vals : ∀ {us : List Value} {xs : List Str}, strsV us = some xs → Vals (xs.map V.str) us
  | [], xs, h => by cases h; exact .nil
  | u :: r, xs, h => by
    cases u with
    | str s t =>
      simp only [strsV, Option.map_eq_some_iff] at h
      obtain ⟨ys, h, rfl⟩ := h
      exact .cons ⟨t, rfl⟩ (strsV_vals h)
    | _ => cases h
theorem repL_strs {K : PySem.W.Frag} {N : Addr → Prop} {H : Hp} : ∀ xs : List Str, RepL K cl N H (xs.map V.str) (xs.map D.str)
  | [] => .nil
  | x :: r => .cons (.str x) (repL_strs r)
theorem pm_gT {x : Str} {xs : List Str} {d : D} {pos : Pos} (h : CnT X.K X.mg x xs) (e : d = .tup (xs.map D.str)) (hg : Gl X x := by rfl) (hd : (x == ("__debug__" : Str)) = false := by decide) : PE X (.Name x pos) (tM X.K cl W (cK d)) := by
  subst e
  obtain ⟨a, its, n, sl, h1, h2, h3, h4⟩ := h
  exact pm_c (pe_glob (v := .ref a) hg h1 rfl hd) fun N H => .tup (.inr ⟨_, its, n, h2, rfl, rfl, rfl, szOk_line h3, strsV_vals h4⟩) (repL_strs xs)
/-! ### n += e -/
noncomputable def sAugI (i : Nat) (c : CE) : CS := fun ρ S => match ρ[i]? with
  | some (some (.val (.int a))) => (c ρ S).bindS ρ fun y S1 => match y with
    | .val (.int b) => .nx (ρ.set i (some (.val (.int (a + b))))) S1
    | _ => .bad
  | _ => .bad
theorem pm_augI {i : Nat} {x : Str} {e : Expr} {c : CE} {pos pos' : Pos} (hN : X.N.Nodup) (he : PE X e (tM X.K cl W c)) (hi : X.N[i]? = some x := by rfl) (hx : Loc X.env.scope x := by first | exact Or.inl rfl | exact Or.inr rfl)
    (hf : X.fn x = true ∨ X.env.scope.names.lookup x = some .local := by first | exact .inl rfl | exact .inr rfl) : PS X (.AugAssign (.Name x pos') .Add e pos) (tMS X.K cl W (sAugI i c)) :=
  PS.imp (ps_aug hN hi hx he ip_add hf) fun E σ H h => by
  obtain ⟨B, m, S, ρ, o, en, fin⟩ := h
  unfold sAugI at fin
  split at fin
  · rename_i a ha
    obtain ⟨v, hv, rv⟩ := en.get i _ ha
    cases rv
    refine ⟨_, hv, B, m, S, ρ, o, en, FinS.bind o en fin fun y S1 w H1 m1 s1 o1 e1 r1 f1 => ?_⟩
    split at f1
    · cases r1
      exact ⟨_, _, rfl, rfl, f1 _ H1 m1 Step.refl o1 (e1.set i (.int _))⟩
    · exact f1.elim
  · exact fin.elim
/-! ### {..}.get(k, d), the keys texts, the values ints -/
noncomputable def lookS : List (Str × Int) → Str → Option Int
  | [], _ => none
  | (k, v) :: r, x => if k = x then some v else lookS r x
noncomputable def cDGetC (kvs : List (Str × Int)) (ck cd : CE) : CE := fun ρ S => (ck ρ S).bind fun x S1 => (cd ρ S1).bind fun y S2 => match x, y with
  | .val (.str k), .val (.int d) => .ok (.val (.int ((lookS kvs k).getD d))) S2
  | _, _ => .bad
noncomputable def trC (kvs : List (Str × Int)) : List (TE × TE) := kvs.map fun kv => (tC (.str kv.1), tC (.int kv.2))
theorem tPairs_c {σ : L2.St} {Q : List (V × V) → Hp → Prop} : ∀ {kvs : List (Str × Int)} {H : Hp}, Q (kvs.map fun kv => (V.str kv.1, V.int kv.2)) H → tPairs (trC kvs) σ H Q
  | [], H, q => q
  | kv :: r, H, q => tPairs_c (kvs := r) (Q := fun ps H3 => Q ((V.str kv.1, V.int kv.2) :: ps) H3) q
theorem look_find : ∀ (kvs : List (Str × Int)) (k : Str), (kvs.map Prod.fst).Nodup → valV ((kvs.map fun kv => ((Sum.inr kv.1 : Key), V.int kv.2))) (Sum.inr k : Key) = (lookS kvs k).map V.int
  | [], k, _ => rfl
  | (a, b) :: r, k, h => by
    have ih := look_find r k (List.nodup_cons.mp h).2
    unfold valV at ih ⊢
    rw [List.map_cons, List.find?_cons]
    by_cases e : a = k
    · subst e
      simp [lookS]
    · have e2 : decide ((Sum.inr a : Key) = Sum.inr k) = false := decide_eq_false fun z => e (Sum.inr.inj z)
      simp only [e2, lookS, if_neg e]
      exact ih
theorem merge_new : ∀ (l acc : List (Key × V)), (l.map Prod.fst).Nodup → (∀ a ∈ acc.map Prod.fst, a ∉ l.map Prod.fst) → mergeK acc l = acc ++ l
  | [], acc, _, _ => by simp [mergeK]
  | (k, v) :: r, acc, h, hd => by
    have h1 := List.nodup_cons.mp h
    have hp : putK acc k v = acc ++ [(k, v)] := by
      unfold putK
      rw [if_neg]
      intro z
      rw [List.any_eq_true] at z
      obtain ⟨p, hp, e⟩ := z
      have e := of_decide_eq_true e
      exact hd p.1 (List.mem_map.mpr ⟨p, hp, rfl⟩) (by rw [e]; simp)
    show mergeK (putK acc k v) r = _
    rw [hp, merge_new r (acc ++ [(k, v)]) h1.2 (fun a ha hr => ?_)]
    · simp
    · rw [List.map_append, List.mem_append] at ha
      rcases ha with ha | ha
      · exact hd a ha (List.mem_cons_of_mem _ hr)
      · simp at ha
        rw [ha] at hr
        exact h1.1 hr
theorem pm_dgetC (kvs : List (Str × Int)) {keys : List (Option Expr)} {vals : List Expr} {ek ed : Expr} {ck cd : CE} {dpos apos pos : Pos} (hu : X.A.units + 1 < cLine) (hp : PPs X dpos keys vals (trC kvs)) (hk : PE X ek (tM X.K cl W ck)) (hd : PE X ed (tM X.K cl W cd))
    (mm : M2 X (.Dict keys vals dpos) "get" apos ek ed pos) (hall : keys.all (·.isSome) = true := by rfl) (hl : keys.length = vals.length := by rfl) (h0 : keys ≠ [] := by exact fun z => by cases z) (h15 : keys.length ≤ 15 := by decide) (nd : (kvs.map Prod.fst).Nodup := by decide +kernel) (hkl : kvs.length ≤ 15 := by decide) :
    PE X (.Call (.Attribute (.Dict keys vals dpos) "get" apos) [ek, ed] [] pos) (tM X.K cl W (cDGetC kvs ck cd)) :=
  PE.imp (pe_dget2 hu (pe_disp hp hall hl h0 h15) hk hd mm) fun σ H Q h => by
  obtain ⟨B, m, S, ρ, o, en, fin⟩ := h
  refine fun p hp => tPairs_c ⟨upd_same, kvs.map fun kv => ((Sum.inr kv.1 : Key), V.int kv.2), by simp [kV], by simpa using hkl, ?_⟩
  have nd2 : ((kvs.map fun kv => ((Sum.inr kv.1 : Key), V.int kv.2)).map Prod.fst).Nodup := by
    rw [List.map_map]
    have : (Prod.fst ∘ fun kv : Str × Int => ((Sum.inr kv.1 : Key), V.int kv.2)) = (Sum.inr : Str → Key) ∘ Prod.fst := rfl
    rw [this, ← List.map_map]
    exact List.Pairwise.map _ (fun a b h e => h (Sum.inr.inj e)) nd
  rw [merge_new _ [] nd2 (fun a ha => by simp at ha), List.nil_append]
  obtain ⟨u, hu2⟩ : ∃ u : HO, u = .dK (kvs.map fun kv => ((Sum.inr kv.1 : Key), V.int kv.2)) := ⟨_, rfl⟩
  have eqh : upd (upd H p (.dK [])) p (.dK (kvs.map fun kv => ((Sum.inr kv.1 : Key), V.int kv.2))) = upd H p u := by
    rw [hu2]
    funext b
    by_cases e : b = p
    · subst e; rw [upd_same, upd_same]
    · rw [upd_ne e, upd_ne e, upd_ne e]
  rw [eqh]
  have st1 : Step H m (upd H p u) m := Step.new hp
  refine ⟨p, rfl, .inl ⟨_, .inl (by rw [upd_same, hu2])⟩, B, m, S, ρ, o.new hp, st1.env o en, ?_⟩
  have fin := Fin.step st1 fin
  refine Fin.bind fin fun x S1 v H1 m1 s1 o1 r1 f1 => ⟨B, m1, S1, ρ, o1, s1.env (o.new hp) (st1.env o en), Fin.bind f1 fun y S2 w H2 m2 s2 o2 r2 f2 => ?_⟩
  split at f2
  · rename_i k d
    have r1' := s2.rep o1 r1
    cases r1'
    cases r2
    have hpm : p ∉ m := fun z => by
      have := o.may (.inr z)
      exact this hp
    have hpm1 : p ∉ m1 := fun z => by
      obtain ⟨r, e, hr⟩ := s1.ext
      rw [e] at z
      rcases List.mem_append.mp z with z | z
      · exact hpm z
      · have := hr p z
        rw [upd_same] at this
        cases this
    have h2 : H2 p = some (.dK (kvs.map fun kv => ((Sum.inr kv.1 : Key), V.int kv.2))) := by
      have nu : NT u := by rw [hu2]; intro _ z; cases z
      rw [(s2.keep p u (s1.keep p u upd_same hpm nu) hpm1 nu), hu2]
    refine ⟨_, DGet.k (k := Sum.inr k) h2, ?_⟩
    rw [look_find kvs k nd]
    cases e : lookS kvs k with
    | none => rw [e] at f2; exact f2.here o2 (.int _)
    | some z => rw [e] at f2; exact f2.here o2 (.int _)
  · exact f2.elim
/-! ### f-strings -/
noncomputable def cFv (c : CE) : CE := fun ρ S => (c ρ S).bind fun x S1 => match x with
  | .val (.str s) => if szOk s.length then .ok (.val (.str s)) S1 else .bad
  | .val (.int i) => if decide (i.natAbs.log2 < 1920) then .ok (.val (.str (toString i))) S1 else .bad
  | _ => .bad
theorem pm_fv {e : Expr} {c : CE} {pos : Pos} (he : PE X e (tM X.K cl W c)) : PE X (.FormattedValue e (-1) none pos) (tM X.K cl W (cFv c)) := PE.imp (pe_fmt he) fun σ H Q h => by
  obtain ⟨B, m, S, ρ, o, en, fin⟩ := h
  refine ⟨B, m, S, ρ, o, en, Fin.bind fin fun x S1 v H1 m1 s1 o1 r1 f1 => ?_⟩
  split at f1
  · split at f1
    · rename_i hz
      cases r1
      exact .inl ⟨_, rfl, szOk_line hz, f1.here o1 (.str _)⟩
    · exact f1.elim
  · split at f1
    · rename_i hz
      cases r1
      exact .inr ⟨_, rfl, of_decide_eq_true hz, f1.here o1 (.str _)⟩
    · exact f1.elim
  · exact f1.elim
noncomputable def jsGo : List CE → Str → CE
  | [], acc => fun _ S => .ok (.val (.str acc)) S
  | c :: r, acc => fun ρ S => (c ρ S).bind fun x S1 => match x with
    | .val (.str s) => if szOk (acc ++ s).length then jsGo r (acc ++ s) ρ S1 else .bad
    | _ => .bad
noncomputable def cJs (cs : List CE) : CE := jsGo cs Str.empty
theorem pj_nil : PJ X [] (([] : List CE).map (tM X.K cl W)) := .nil
theorem pj_cons {e : Expr} {es : List Expr} {c : CE} {cs : List CE} (h : PE X e (tM X.K cl W c)) (r : PJ X es (cs.map (tM X.K cl W))) : PJ X (e :: es) ((c :: cs).map (tM X.K cl W)) := .cons h r
theorem tJs_ok {Q : VK} : ∀ {cs : List CE} {acc : Str} {σ : L2.St} {H : Hp}, tM X.K cl W (jsGo cs acc) σ H Q → tJs (cs.map (tM X.K cl W)) acc σ H fun out H1 => Q (.str out) H1
  | [], acc, σ, H, ⟨B, m, S, ρ, o, en, fin⟩ => fin.here o (.str _)
  | c :: r, acc, σ, H, ⟨B, m, S, ρ, o, en, fin⟩ => by
    refine ⟨B, m, S, ρ, o, en, Fin.bind fin fun x S1 v H1 m1 s1 o1 r1 f1 => ?_⟩
    split at f1
    · split at f1
      · rename_i hz
        cases r1
        exact ⟨_, rfl, szOk_line hz, tJs_ok ⟨B, m1, S1, ρ, o1, s1.env o en, f1⟩⟩
      · exact f1.elim
    · exact f1.elim
theorem pm_js {v1 v2 : Expr} {rest : List Expr} {cs : List CE} {pos : Pos} (h : PJ X (v1 :: v2 :: rest) (cs.map (tM X.K cl W))) : PE X (.JoinedStr (v1 :: v2 :: rest) pos) (tM X.K cl W (cJs cs)) := PE.imp (pe_joined h) fun σ H Q q => tJs_ok q
end
end T3
namespace T3
open PySem
/-- a state that nobody can wake, seen alike -/
noncomputable def sealG : GenState → GenState
  | .suspended _ l c p fs cl => .suspended (fun _ => .unsupported "") l c p fs cl
  | x => x
noncomputable def isSus : GenState → Bool
  | .suspended .. => true
  | .running => true
  | _ => false
theorem seal_seen (x : GenState) : (sealG x).seen = x.seen := by cases x <;> rfl
theorem runs_uns {M : Model} {Γ : Ctx} {p : Pos} {w : String} {fs : List Frame} {s s' : Shared} {e : End} {t : Sem PySem.Fin} (h : Runs M Γ p t fs s e s') : t = .unsupported w → False := by
  induction h with
  | segRet _ _ ih _ => exact ih
  | segGen _ _ ih _ => exact ih
  | segSuspOut _ _ ih => exact ih
  | segSuspGen _ _ _ _ ih _ => exact ih
  | _ => intro ht; cases ht
open PySem
/-- a is b, its generators of G sealed -/
structure Seal (G : Nat → Prop) (a b : Shared) : Prop where
  rest : b = { a with gens := b.gens }
  size : a.gens.size = b.gens.size
  lt : ∀ i, G i → i < a.gens.size
  on : ∀ i x, G i → b.gens[i]? = some x → a.gens[i]? = some (sealG x) ∧ isSus x = true
  off : ∀ i, ¬ G i → a.gens[i]? = b.gens[i]?
  plain : ∀ i k l c p fs cl, ¬ G i → b.gens[i]? = some (.suspended k l c p fs cl) → splitAtGen fs = none
noncomputable def endPlain : End → Prop
  | .ret _ => True
  | .susp _ _ _ _ _ _ fs => splitAtGen fs = none
section
variable {G : Nat → Prop} {a b : Shared}
theorem Seal.heap (h : Seal G a b) : b.heap = a.heap := by rw [h.rest]
theorem Seal.toks (h : Seal G a b) : b.toks = a.toks := by rw [h.rest]
theorem Seal.drawn (h : Seal G a b) : b.drawn = a.drawn := by rw [h.rest]
theorem Seal.os (h : Seal G a b) : b.os = a.os := by rw [h.rest]
theorem Seal.with (h : Seal G a b) (hp : Heap) (t : Tok) : Seal G { a with heap := hp, toks := t } { b with heap := hp, toks := t } :=
  ⟨by conv => lhs; rw [h.rest], h.size, h.lt, h.on, h.off, h.plain⟩
theorem Seal.setOff (h : Seal G a b) {g : Nat} (hg : ¬ G g) {x : GenState} (hx : ∀ k l c p fs cl, x = .suspended k l c p fs cl → splitAtGen fs = none) : Seal G (a.setGen g x) (b.setGen g x) := by
  have ne : ∀ i, G i → g ≠ i := fun i hi e => hg (e ▸ hi)
  refine ⟨by show { b with gens := b.gens.setIfInBounds g x } = { a with gens := b.gens.setIfInBounds g x }; conv => lhs; rw [h.rest], by simp [Shared.setGen, h.size], fun i hi => by simpa [Shared.setGen] using h.lt i hi, fun i y hi hy => ?_, fun i hi => ?_, fun i k l c p fs cl hi hy => ?_⟩
  · simp only [Shared.setGen, Array.getElem?_setIfInBounds_ne (ne i hi)] at hy ⊢
    exact h.on i y hi hy
  · simp only [Shared.setGen, Array.getElem?_setIfInBounds, h.size, h.off i hi]
  · simp only [Shared.setGen, Array.getElem?_setIfInBounds] at hy
    split at hy
    · split at hy
      · cases hy
        exact hx k l c p fs cl rfl
      · cases hy
    · exact h.plain i k l c p fs cl hi hy
end
open PySem
section
variable {G : Nat → Prop} {a b : Shared}
theorem Seal.get (h : Seal G a b) {i : Nat} {x : GenState} (e : a.gens[i]? = some x) : ∃ y, b.gens[i]? = some y ∧ y.seen = x.seen ∧ (¬ G i → y = x) ∧ (G i → x = sealG y ∧ isSus y = true) := by
  have hl : i < b.gens.size := by rw [← h.size]; exact (Array.getElem?_eq_some_iff.mp e).1
  have eb := Array.getElem?_eq_getElem hl
  by_cases hg : G i
  · obtain ⟨h1, h2⟩ := h.on i _ hg eb
    rw [e] at h1
    cases h1
    exact ⟨_, eb, (seal_seen _).symm, fun z => absurd hg z, fun _ => ⟨rfl, h2⟩⟩
  · have := h.off i hg
    rw [e, eb] at this
    cases this
    exact ⟨_, eb, rfl, fun _ => rfl, fun z => absurd z hg⟩
theorem Seal.push (h : Seal G a b) (c : Code) : Seal G { a with gens := a.gens.push (.fresh c) } { b with gens := b.gens.push (.fresh c) } := by
  refine ⟨by conv => lhs; rw [h.rest], by simp [h.size], fun i hi => by simp; have := h.lt i hi; omega, fun i x hi hx => ?_, fun i hi => ?_, fun i k l cc p fs cl hi hy => ?_⟩
  · have := h.lt i hi
    have hb : i < b.gens.size := by rw [← h.size]; exact this
    simp only [Array.getElem?_push, h.size] at hx ⊢
    rw [if_neg (by omega)] at hx ⊢
    exact h.on i x hi hx
  · simp only [Array.getElem?_push, h.size, h.off i hi]
  · simp only [Array.getElem?_push] at hy
    split at hy
    · cases hy
    · exact h.plain i k l cc p fs cl hi hy
end
open PySem
section
variable {G : Nat → Prop} {a b : Shared}
theorem Seal.hp (h : Seal G a b) (f : Heap → Heap) : Seal G { a with heap := f a.heap } { b with heap := f b.heap } := by
  have e := h.heap
  rw [e]
  exact ⟨by conv => lhs; rw [h.rest], h.size, h.lt, h.on, h.off, h.plain⟩
theorem Seal.tk (h : Seal G a b) : Seal G { a with toks := a.toks + 1 } { b with toks := b.toks + 1 } := by
  have e := h.toks
  rw [e]
  exact ⟨by conv => lhs; rw [h.rest], h.size, h.lt, h.on, h.off, h.plain⟩
theorem Seal.dr (h : Seal G a b) (src : Source) : Seal G { a with drawn := a.drawn.bump src } { b with drawn := b.drawn.bump src } := by
  have e := h.drawn
  rw [e]
  exact ⟨by conv => lhs; rw [h.rest], h.size, h.lt, h.on, h.off, h.plain⟩
theorem Seal.ost (h : Seal G a b) (q : OsRequest) : Seal G { a with os := (Os.step a.os q).1 } { b with os := (Os.step b.os q).1 } := by
  have e := h.os
  rw [e]
  exact ⟨by conv => lhs; rw [h.rest], h.size, h.lt, h.on, h.off, h.plain⟩
end
theorem split_ret {k : Result → Sem PySem.Fin} {h : Option Value} {g : Bool} {l : List Value} {c : Code} {p : Pos} {kp : List Value} {fs : List Frame} (e : splitAtGen (.ret k h g l c p kp :: fs) = none) : splitAtGen fs = none := by
  simp only [splitAtGen, Option.map_eq_none_iff] at e
  exact e
theorem split_app : ∀ {fs gs : List Frame}, splitAtGen fs = none → splitAtGen gs = none → splitAtGen (fs ++ gs) = none
  | [], _, _, h => h
  | .ret .. :: r, gs, h1, h2 => by
    have := split_app (split_ret h1) h2
    simp only [List.cons_append, splitAtGen, this, Option.map_none]
  | .gen .. :: r, _, h1, _ => by simp [splitAtGen] at h1
theorem plain_end : ∀ {e : End}, endPlain e → ∀ k l c p fs cl, e.genState = .suspended k l c p fs cl → splitAtGen fs = none
  | .ret _, _ => fun _ _ _ _ _ _ z => by cases z
  | .susp _ _ _ _ _ _ _, h => fun _ _ _ _ _ _ z => by cases z; exact h
theorem setGen_ne {s : Shared} {g i : Nat} {x : GenState} (h : g ≠ i) : (s.setGen g x).gens[i]? = s.gens[i]? := by
  simp only [Shared.setGen]
  exact Array.getElem?_setIfInBounds_ne h
theorem off_ne {G : Nat → Prop} {g i : Nat} (h : ¬ G g) (hi : G i) : g ≠ i := fun e => h (e ▸ hi)
/-- what runs with the sealed ones runs with the real ones, which stay -/
theorem runs_seal {M : Model} {G : Nat → Prop} {Γ : Ctx} {p : Pos} {t : Sem PySem.Fin} {fs : List Frame} {a a' : Shared} {e : End} (h : Runs M Γ p t fs a e a') :
    ∀ b, Seal G a b → splitAtGen fs = none → ∃ b', Runs M Γ p t fs b e b' ∧ Seal G a' b' ∧ endPlain e ∧ ∀ i, G i → b'.gens[i]? = b.gens[i]? := by
  induction h with
  | done => exact fun b s _ => ⟨b, .done, s, True.intro, fun _ _ => rfl⟩
  | raise => exact fun b s _ => ⟨b, .raise, s, True.intro, fun _ _ => rfl⟩
  | again q _ ih => intro b s _; obtain ⟨b', r, x⟩ := ih b s rfl; exact ⟨b', .again q r, x⟩
  | rule _ ih => intro b s _; obtain ⟨b', r, x⟩ := ih b s rfl; exact ⟨b', .rule r, x⟩
  | «at» _ ih => intro b s _; obtain ⟨b', r, x⟩ := ih b s rfl; exact ⟨b', .at r, x⟩
  | load e _ ih => intro b s _; obtain ⟨b', r, x⟩ := ih b s rfl; exact ⟨b', .load (by rw [s.heap]; exact e) r, x⟩
  | update e _ ih =>
    intro b s _
    obtain ⟨b', r, x⟩ := ih _ (s.hp (·.update _ _)) rfl
    exact ⟨b', .update (by rw [s.heap]; exact e) r, x⟩
  | loadIfAlive _ ih => intro b s _; obtain ⟨b', r, x⟩ := ih b s rfl; exact ⟨b', .loadIfAlive (by rw [s.heap]; exact r), x⟩
  | point _ ih => intro b s _; obtain ⟨b', r, x⟩ := ih b s rfl; exact ⟨b', .point r, x⟩
  | alloc _ ih => intro b s _; obtain ⟨b', r, x⟩ := ih _ (s.hp (·.push _)) rfl; exact ⟨b', .alloc (by rw [s.heap] at r ⊢; exact r), x⟩
  | fresh _ ih => intro b s _; obtain ⟨b', r, x⟩ := ih _ s.tk rfl; exact ⟨b', .fresh (by rw [s.toks] at r ⊢; exact r), x⟩
  | ask _ ih => intro b s _; obtain ⟨b', r, x⟩ := ih b s rfl; exact ⟨b', .ask r, x⟩
  | choose hn _ ih => intro b s _; obtain ⟨b', r, x⟩ := ih _ (s.dr _) rfl; exact ⟨b', .choose hn (by rw [s.drawn] at r ⊢; exact r), x⟩
  | os _ ih => intro b s _; obtain ⟨b', r, x⟩ := ih _ (s.ost _) rfl; exact ⟨b', .os (by rw [s.os] at r ⊢; exact r), x⟩
  | handled _ ih => intro b s _; obtain ⟨b', r, x⟩ := ih b s rfl; exact ⟨b', .handled r, x⟩
  | stack _ ih => intro b s _; obtain ⟨b', r, x⟩ := ih b s rfl; exact ⟨b', .stack r, x⟩
  | thread _ ih => intro b s _; obtain ⟨b', r, x⟩ := ih b s rfl; exact ⟨b', .thread r, x⟩
  | genState e _ ih =>
    intro b s _
    obtain ⟨y, hy, hs, _⟩ := s.get e
    obtain ⟨b', r, x⟩ := ih b s rfl
    exact ⟨b', .genState hy (by rw [hs]; exact r), x⟩
  | newGen _ ih =>
    intro b s _
    obtain ⟨b', r, s', x, k⟩ := ih _ (s.push _) rfl
    refine ⟨b', .newGen (by rw [← s.size]; exact r), s', x, fun i hi => (k i hi).trans ?_⟩
    have := s.lt i hi
    simp only [Array.getElem?_push]
    rw [if_neg (by rw [← s.size]; omega)]
  | call _ _ ih1 ih2 =>
    intro b s _
    obtain ⟨b1, r1, s1, _, k1⟩ := ih1 b s rfl
    obtain ⟨b2, r2, s2, x2, k2⟩ := ih2 b1 s1 rfl
    exact ⟨b2, .call r1 r2, s2, x2, fun i hi => (k2 i hi).trans (k1 i hi)⟩
  | callSusp _ ih =>
    intro b s _
    obtain ⟨b1, r1, s1, x1, k1⟩ := ih b s rfl
    exact ⟨b1, .callSusp r1, s1, split_app x1 rfl, k1⟩
  | yield => exact fun b s _ => ⟨b, .yield, s, rfl, fun _ _ => rfl⟩
  | segRet _ _ ih1 ih2 =>
    intro b s hf
    obtain ⟨b1, r1, s1, _, k1⟩ := ih1 b s rfl
    obtain ⟨b2, r2, s2, x2, k2⟩ := ih2 b1 s1 (split_ret hf)
    exact ⟨b2, .segRet r1 r2, s2, x2, fun i hi => (k2 i hi).trans (k1 i hi)⟩
  | segGen _ _ _ _ => intro b s hf; simp [splitAtGen] at hf
  | segSuspOut hs _ ih =>
    intro b s hf
    obtain ⟨b1, r1, s1, x1, k1⟩ := ih b s rfl
    exact ⟨b1, .segSuspOut hs r1, s1, split_app x1 hf, k1⟩
  | segSuspGen hs _ _ _ _ _ => intro b s hf; rw [hs] at hf; cases hf
  | resumeFresh hg _ hq _ ih1 ih2 =>
    intro b s _
    obtain ⟨y, hy, hs, h1, h2⟩ := s.get hg
    have ng : ¬ G _ := fun z => by
      obtain ⟨e1, e2⟩ := h2 z
      cases y <;> simp [sealG, isSus] at e1 e2
    cases h1 ng
    obtain ⟨b1, r1, s1, x1, k1⟩ := ih1 _ (s.setOff ng (x := .running) (fun _ _ _ _ _ _ z => by cases z)) rfl
    obtain ⟨b2, r2, s2, x2, k2⟩ := ih2 _ (s1.setOff ng (plain_end x1)) rfl
    refine ⟨b2, .resumeFresh hy r1 hq r2, s2, x2, fun i hi => ?_⟩
    exact (k2 i hi).trans ((setGen_ne (off_ne ng hi)).trans ((k1 i hi).trans (setGen_ne (off_ne ng hi))))
  | resumeSuspended hg hr0 hq _ ih1 ih2 =>
    intro b s _
    obtain ⟨y, hy, hs, h1, h2⟩ := s.get hg
    have ng : ¬ G _ := fun z => by
      obtain ⟨e1, e2⟩ := h2 z
      cases y with
      | suspended k l c p fs cl =>
        simp only [sealG, GenState.suspended.injEq] at e1
        obtain ⟨rfl, _⟩ := e1
        exact runs_uns hr0 rfl
      | running => cases e1
      | _ => simp [isSus] at e2
    cases h1 ng
    obtain ⟨b1, r1, s1, x1, k1⟩ := ih1 _ (s.setOff ng (x := .running) (fun _ _ _ _ _ _ z => by cases z)) (s.plain _ _ _ _ _ _ _ ng hy)
    obtain ⟨b2, r2, s2, x2, k2⟩ := ih2 _ (s1.setOff ng (plain_end x1)) rfl
    refine ⟨b2, .resumeSuspended hy r1 hq r2, s2, x2, fun i hi => ?_⟩
    exact (k2 i hi).trans ((setGen_ne (off_ne ng hi)).trans ((k1 i hi).trans (setGen_ne (off_ne ng hi))))
  | resumeJustStarted hg hv _ ih =>
    intro b s _
    obtain ⟨y, hy, _, h1, h2⟩ := s.get hg
    have ng : ¬ G _ := fun z => by
      obtain ⟨e1, e2⟩ := h2 z
      cases y <;> simp [sealG, isSus] at e1 e2
    cases h1 ng
    obtain ⟨b', r, x⟩ := ih b s rfl
    exact ⟨b', .resumeJustStarted hy hv r, x⟩
  | resumeThrowFresh hg _ ih =>
    intro b s _
    obtain ⟨y, hy, _, h1, h2⟩ := s.get hg
    have ng : ¬ G _ := fun z => by
      obtain ⟨e1, e2⟩ := h2 z
      cases y <;> simp [sealG, isSus] at e1 e2
    cases h1 ng
    obtain ⟨b', r, s', x, k⟩ := ih _ (s.setOff ng (x := .finished) (fun _ _ _ _ _ _ z => by cases z)) rfl
    exact ⟨b', .resumeThrowFresh hy r, s', x, fun i hi => (k i hi).trans (setGen_ne (off_ne ng hi))⟩
  | resumeRunning hg _ ih =>
    intro b s _
    obtain ⟨y, hy, _, h1, h2⟩ := s.get hg
    have hy2 : y = GenState.running := by
      refine Classical.byContradiction fun ne => ?_
      have z := Classical.not_not.mp (fun z => ne (h1 z))
      obtain ⟨e1, e2⟩ := h2 z
      cases y <;> simp [sealG, isSus] at e1 e2 ne
    subst hy2
    obtain ⟨b', r, x⟩ := ih b s rfl
    exact ⟨b', .resumeRunning hy r, x⟩
  | resumeFinished hg _ ih =>
    intro b s _
    obtain ⟨y, hy, _, h1, h2⟩ := s.get hg
    have ng : ¬ G _ := fun z => by
      obtain ⟨e1, e2⟩ := h2 z
      cases y <;> simp [sealG, isSus] at e1 e2
    cases h1 ng
    obtain ⟨b', r, x⟩ := ih b s rfl
    exact ⟨b', .resumeFinished hy r, x⟩
open PySem
theorem wakes_seal {M : Model} {G : Nat → Prop} {Γ : Ctx} {p : Pos} {g : Nat} {r : Resume} {a a' b : Shared} {res : GenResult} (h : Wakes M Γ p g r a res a') (s : Seal G a b) :
    ∃ b', Wakes M Γ p g r b res b' ∧ Seal G a' b' ∧ ∀ i, G i → b'.gens[i]? = b.gens[i]? := by
  unfold Wakes at h
  cases hg : a.gens[g]? with
  | none => rw [hg] at h; exact h.elim
  | some x =>
    rw [hg] at h
    obtain ⟨y, hy, hs, h1, h2⟩ := s.get hg
    have kk : ∀ {b1 : Shared} {z z' : GenState}, ¬ G g → (∀ i, G i → b1.gens[i]? = (b.setGen g z).gens[i]?) → ∀ i, G i → (b1.setGen g z').gens[i]? = b.gens[i]? := fun ng k1 i hi =>
      (setGen_ne (off_ne ng hi)).trans ((k1 i hi).trans (setGen_ne (off_ne ng hi)))
    cases x with
    | fresh c =>
      have ng : ¬ G g := fun z => by
        obtain ⟨e1, e2⟩ := h2 z
        cases y <;> simp [sealG, isSus] at e1 e2
      cases h1 ng
      cases r with
      | send v =>
        cases v with
        | none =>
          obtain ⟨e₁, s₁, hr, hq, rfl, rfl⟩ := h
          obtain ⟨b1, r1, s1, x1, k1⟩ := runs_seal hr _ (s.setOff ng (x := .running) (fun _ _ _ _ _ _ z => by cases z)) rfl
          exact ⟨b1.setGen g e₁.genState, by unfold Wakes; rw [hy]; exact ⟨e₁, b1, r1, hq, rfl, rfl⟩, s1.setOff ng (plain_end x1), kk ng k1⟩
        | _ => obtain ⟨rfl, rfl⟩ := h; exact ⟨b, by unfold Wakes; rw [hy]; exact ⟨rfl, rfl⟩, s, fun _ _ => rfl⟩
      | throw v =>
        obtain ⟨rfl, rfl⟩ := h
        exact ⟨b.setGen g .finished, by unfold Wakes; rw [hy]; exact ⟨rfl, rfl⟩, s.setOff ng (fun _ _ _ _ _ _ z => by cases z), fun i hi => setGen_ne (off_ne ng hi)⟩
    | suspended k l c p0 fs cl =>
      obtain ⟨e₁, s₁, hr, hq, rfl, rfl⟩ := h
      have ng : ¬ G g := fun z => by
        obtain ⟨e1, e2⟩ := h2 z
        cases y with
        | suspended k l c p fs cl =>
          simp only [sealG, GenState.suspended.injEq] at e1
          obtain ⟨rfl, _⟩ := e1
          exact runs_uns hr rfl
        | running => cases e1
        | _ => simp [isSus] at e2
      cases h1 ng
      obtain ⟨b1, r1, s1, x1, k1⟩ := runs_seal hr _ (s.setOff ng (x := .running) (fun _ _ _ _ _ _ z => by cases z)) (s.plain _ _ _ _ _ _ _ ng hy)
      exact ⟨b1.setGen g e₁.genState, by unfold Wakes; rw [hy]; exact ⟨e₁, b1, r1, hq, rfl, rfl⟩, s1.setOff ng (plain_end x1), kk ng k1⟩
    | running =>
      have hy2 : b.gens[g]? = some GenState.running := by
        by_cases z : G g
        · obtain ⟨e1, e2⟩ := h2 z
          cases y <;> simp [sealG, isSus] at e1 e2
          exact hy
        · cases h1 z; exact hy
      obtain ⟨rfl, rfl⟩ := h
      exact ⟨b, by unfold Wakes; rw [hy2]; exact ⟨rfl, rfl⟩, s, fun _ _ => rfl⟩
    | finished =>
      have ng : ¬ G g := fun z => by
        obtain ⟨e1, e2⟩ := h2 z
        cases y <;> simp [sealG, isSus] at e1 e2
      cases h1 ng
      obtain ⟨rfl, rfl⟩ := h
      exact ⟨b, by unfold Wakes; rw [hy]; exact ⟨rfl, rfl⟩, s, fun _ _ => rfl⟩
/-- the real state behind a sealed one, the sealed generators as they stood -/
noncomputable def Back (G : Nat → Prop) (b : Shared) (Q : Shared → Prop) (b' : Shared) : Prop := ∃ a', Seal G a' b' ∧ (∀ i, G i → b'.gens[i]? = b.gens[i]?) ∧ Q a'
theorem Back.from {G : Nat → Prop} {b b1 b' : Shared} {Q : Shared → Prop} (k : ∀ i, G i → b1.gens[i]? = b.gens[i]?) (h : Back G b1 Q b') : Back G b Q b' := by
  obtain ⟨a', s, k', q⟩ := h
  exact ⟨a', s, fun i hi => (k' i hi).trans (k i hi), q⟩
theorem wp_seal {α : Type} (M : Model) (Γ : Ctx) (G : Nat → Prop) (t : Sem α) : ∀ (Q : α → Pos → Shared → Prop) (E : Value → Pos → Shared → Prop) (p : Pos) (a b : Shared), Seal G a b → Sem.wp M Γ t Q E p a →
    Sem.wp M Γ t (fun x p' b' => Back G b (Q x p') b') (fun x p' b' => Back G b (E x p') b') p b := by
  have go : ∀ (t : Sem α) (Q : α → Pos → Shared → Prop) (E : Value → Pos → Shared → Prop) (p : Pos) (b b1 : Shared), (∀ i, G i → b1.gens[i]? = b.gens[i]?) →
      Sem.wp M Γ t (fun x p' b' => Back G b1 (Q x p') b') (fun x p' b' => Back G b1 (E x p') b') p b1 → Sem.wp M Γ t (fun x p' b' => Back G b (Q x p') b') (fun x p' b' => Back G b (E x p') b') p b1 :=
    fun t Q E p b b1 k h => Sem.wp_mono M Γ t (fun _ _ _ x => x.from k) (fun _ _ _ x => x.from k) p b1 h
  induction t with
  | pure x => intro Q E p a b s h; exact ⟨a, s, fun _ _ => rfl, h⟩
  | raise e => intro Q E p a b s h; exact ⟨a, s, fun _ _ => rfl, h⟩
  | unsupported _ => intro Q E p a b s h; exact h
  | finish _ => intro Q E p a b s h; exact h
  | rule _ k ih => intro Q E p a b s h; exact ih () Q E p a b s h
  | «at» p' k ih => intro Q E p a b s h; exact ih () Q E p' a b s h
  | load l _ k ih => intro Q E p a b s h; obtain ⟨o, ho, h⟩ := h; exact ⟨o, by rw [s.heap]; exact ho, ih o Q E p a b s h⟩
  | update l _ f k ih => intro Q E p a b s h; exact ⟨by rw [s.heap]; exact h.1, go _ Q E p _ _ (fun _ _ => rfl) (ih () Q E p _ _ (s.hp (·.update _ _)) h.2)⟩
  | loadIfAlive l k ih => intro Q E p a b s h; have := ih _ Q E p a b s h; rw [← s.heap] at this; exact this
  | point _ k ih => intro Q E p a b s h; exact ih () Q E p a b s h
  | register _ _ => intro Q E p a b s h; exact h
  | alloc o k ih => intro Q E p a b s h; have := ih _ Q E p _ _ (s.hp (·.push o)) h; rw [← s.heap] at this; exact go _ Q E p b _ (fun _ _ => rfl) this
  | fresh k ih => intro Q E p a b s h; have := ih _ Q E p _ _ s.tk h; rw [← s.toks] at this; exact go _ Q E p b _ (fun _ _ => rfl) this
  | ask k ih => intro Q E p a b s h; exact ih _ Q E p a b s h
  | choose src m k ih => intro Q E p a b s h; have := ih _ Q E p _ _ (s.dr src) h.2; rw [← s.drawn] at this; exact ⟨h.1, go _ Q E p b _ (fun _ _ => rfl) this⟩
  | os q _ k ih => intro Q E p a b s h; have := ih _ Q E p _ _ (s.ost q) h; rw [← s.os] at this; exact go _ Q E p b _ (fun _ _ => rfl) this
  | call c hd _ _ k ih =>
    intro Q E p a b s h
    obtain ⟨r, s', hr, h⟩ := h
    obtain ⟨b1, r1, s1, _, k1⟩ := runs_seal hr b s rfl
    exact ⟨r, b1, r1, go _ Q E p b b1 k1 (ih r Q E p s' b1 s1 h)⟩
  | handled own k ih => intro Q E p a b s h; exact ih _ Q E p a b s h
  | genState g k ih =>
    intro Q E p a b s h
    obtain ⟨st, hs, h⟩ := h
    obtain ⟨y, hy, hsn, _⟩ := s.get hs
    refine ⟨y, hy, ?_⟩
    rw [hsn]
    exact ih _ Q E p a b s h
  | newGen c k ih =>
    intro Q E p a b s h
    have := go _ Q E p b _ (fun i hi => ?_) (ih _ Q E p _ _ (s.push c) h)
    · rw [s.size] at this; exact this
    · have := s.lt i hi
      simp only [Array.getElem?_push]
      rw [if_neg (by rw [← s.size]; omega)]
  | resume g r _ k ih =>
    intro Q E p a b s h
    obtain ⟨res, s', hw, h⟩ := h
    obtain ⟨b1, w1, s1, k1⟩ := wakes_seal hw s
    exact ⟨res, b1, w1, go _ Q E p b b1 k1 (ih res Q E p s' b1 s1 h)⟩
  | yield _ _ _ _ => intro Q E p a b s h; exact h
  | stack k ih => intro Q E p a b s h; exact ih _ Q E p a b s h
  | fork _ _ => intro Q E p a b s h; exact h
  | thread k ih => intro Q E p a b s h; exact ih _ Q E p a b s h
  | await _ _ _ _ _ => intro Q E p a b s h; exact h
theorem wpAny_seal {α : Type} {M : Model} {A : Around} {G : Nat → Prop} {a b : Shared} {t : Sem α} {Q : α → Shared → Prop} {E : Value → Shared → Prop} (s : Seal G a b) (h : wpAny M A t Q E a) :
    wpAny M A t (fun x b' => Back G b (Q x) b') (fun x b' => Back G b (E x) b') b :=
  fun Γ p hΓ => wp_seal M Γ G t _ _ p a b s (h Γ p hΓ)
end T3
namespace T3
open PySem PySem.Spec PyProof.Rows L2
/-! ### a piece of a generator's run, up to its next rest -/
noncomputable def SegQ (M : Model) (A : Around) (Φ : End → Shared → Prop) (c : Code) (t : Sem PySem.Fin) (fs : List Frame) (s : Shared) : Prop :=
  ∀ Γ p, Γ.code = c → Γ.Woken A → ∃ e s', Runs M Γ p t fs s e s' ∧ Φ e s'
section
variable {M : Model} {A : Around} {Φ : End → Shared → Prop} {c : Code} {fs : List Frame} {s : Shared}
theorem sq_wrap {α : Type} {m : Sem α} {K : α → Sem PySem.Fin} {H : Value → Sem PySem.Fin} {gd : Bool → Bool} {lv : List Value → List Value}
    (h : wpAny M (A.over c fs) m (fun a s' => SegQ M A Φ c (K a) fs s') (fun x s' => SegQ M A Φ c (H x) fs s') s) :
    SegQ M A Φ c (m.wrap K H gd lv) fs s := by
  rintro Γ p rfl hΓ
  exact runs_wrap_of_wp K H gd lv m (h (Γ.over fs) p (hΓ.over fs)) (fun a p' s' h' => h' Γ p' rfl hΓ) (fun x p' s' h' => h' Γ p' rfl hΓ)
theorem sq_bind {α : Type} {m : Sem α} {K : α → Sem PySem.Fin}
    (h : wpAny M (A.over c fs) m (fun a s' => SegQ M A Φ c (K a) fs s') (fun x s' => SegQ M A Φ c (.raise x) fs s') s) :
    SegQ M A Φ c (m >>= K) fs s := by
  rw [Sem.bind_eq_wrap']; exact sq_wrap h
theorem sq_bind_wrap {α β : Type} {m : Sem α} {K : α → Sem β} {K' : β → Sem PySem.Fin} {H' : Value → Sem PySem.Fin} {gd : Bool → Bool} {lv : List Value → List Value}
    (h : wpAny M (A.over c fs) m (fun a s' => SegQ M A Φ c ((K a).wrap K' H' gd lv) fs s') (fun x s' => SegQ M A Φ c (H' x) fs s') s) : SegQ M A Φ c ((m >>= K).wrap K' H' gd lv) fs s := by
  rw [Sem.bind_eq_wrap', Sem.wrap_wrap]; exact sq_wrap h
theorem sq_at {p' : Pos} {k : Unit → Sem PySem.Fin} (h : SegQ M A Φ c (k ()) fs s) : SegQ M A Φ c (.at p' k) fs s :=
  sq_wrap (m := standAt p') (K := k) (H := .raise) (gd := id) (lv := id) (wpAny_standAt h)
theorem sq_point {l : List Value} {k : Unit → Sem PySem.Fin} (h : SegQ M A Φ c (k ()) fs s) : SegQ M A Φ c (.point l k) fs s :=
  sq_wrap (m := point) (K := k) (H := .raise) (gd := id) (lv := fun _ => l) (wpAny_point h)
theorem sq_call {c' : Code} {h : Option Value} {g : Bool} {l : List Value} {k : Result → Sem PySem.Fin} (hc : ∀ p, SegQ M A Φ c' (M.den c') (.ret k h g l c p [] :: fs) s) :
    SegQ M A Φ c (.call c' h g l k) fs s := by
  rintro Γ p rfl hΓ
  obtain ⟨e, s', hr, he⟩ := hc p (Γ.goto c') p rfl (hΓ.goto c')
  exact ⟨e, s', runs_call_seg hr, he⟩
theorem sq_leaf {k : Result → Sem PySem.Fin} {h : Option Value} {g : Bool} {l kp : List Value} {c₁ : Code} {p₁ : Pos} (r : Result) (hk : SegQ M A Φ c₁ (k r) fs s) : SegQ M A Φ c (leafOf r) (.ret k h g l c₁ p₁ kp :: fs) s := by
  rintro Γ p rfl hΓ
  obtain ⟨e, s', hr, he⟩ := hk (Γ.goto c₁) p₁ rfl (hΓ.goto c₁)
  exact ⟨e, s', Runs.pop r hr, he⟩
theorem sq_again {c' : Code} (hq : c'.quiet = true) (hc : SegQ M A Φ c' (M.den c') fs s) : SegQ M A Φ c (.pure (.again c')) fs s := by
  rintro Γ p rfl hΓ
  obtain ⟨e, s', hr, he⟩ := hc (Γ.goto c') p rfl (hΓ.goto c')
  exact ⟨e, s', Runs.head (c₁ := c') (fun _ _ x => .again hq x) hr, he⟩
theorem sq_end (r : Result) (h : Φ (.ret r) s) : SegQ M A Φ c (leafOf r) [] s := by
  rintro Γ p rfl _
  exact ⟨.ret r, s, Runs.leaf r, h⟩
theorem sq_yield {v : Value} {g : Bool} {l : List Value} {k : Resume → Sem PySem.Fin} (hfs : splitAtGen fs = none) (h : ∀ p, Φ (.susp v g l k c p fs) s) : SegQ M A Φ c (.yield v g l k) fs s := by
  rintro Γ p rfl _
  exact ⟨_, s, Runs.yield' fs hfs, h p⟩
theorem SegQ.imp {Ψ : End → Shared → Prop} {t : Sem PySem.Fin} (h : SegQ M A Φ c t fs s) (k : ∀ e s', Φ e s' → Ψ e s') : SegQ M A Ψ c t fs s := fun Γ p h1 h2 =>
  let ⟨e, s', r, q⟩ := h Γ p h1 h2
  ⟨e, s', r, k e s' q⟩
end
/-! ### statements -/
section
variable {M : Model} {A : Around} {Φ : End → Shared → Prop} {c : Code} {fs : List Frame} {s : Shared} {env : Env} {K : Flow → Sem PySem.Fin} {H : Value → Sem PySem.Fin} {gd : Bool → Bool} {lv : List Value → List Value}
theorem sq_execs_nil (h : SegQ M A Φ c (K .next) fs s) : SegQ M A Φ c ((execs [] env).wrap K H gd lv) fs s := h
theorem sq_execs_cons {st : Stmt} {rest : List Stmt}
    (h : SegQ M A Φ c ((exec st env).wrap (fun f => match f with | .next => (execs rest env).wrap K H gd lv | f => K f) H gd lv) fs s) :
    SegQ M A Φ c ((execs (st :: rest) env).wrap K H gd lv) fs s := by rw [execs_cons_wrap]; exact h
theorem sq_If {test : Expr} {a b : List Stmt} {pos : Pos}
    (h : wpAny M (A.over c fs) (isTrue test env (eval test env)) (fun x s' => SegQ M A Φ c ((execs (if x = true then a else b) env).wrap K H gd lv) fs s') (fun x s' => SegQ M A Φ c (H x) fs s') s) :
    SegQ M A Φ c ((exec (.If test a b pos) env).wrap K H gd lv) fs s := by
  have e : exec (.If test a b pos) env = (do standAt pos; if ← isTrue test env (eval test env) then execs a env else execs b env) := rfl
  rw [e]
  refine sq_bind_wrap (wpAny_standAt ?_)
  refine sq_bind_wrap (wpAny_mono h (fun x s' h' => ?_) fun _ _ x => x)
  cases x with
  | true => exact h'
  | false => exact h'
theorem sq_For {target iter : Expr} {body orelse : List Stmt} {pos : Pos} (hs : ∀ x, foldedSetIterable iter env x = pure x)
    (h : wpAny M (A.over c fs) (eval iter env) (fun x s₁ => wpAny M (A.over c fs) (pyIter x) (fun it s₂ => ∀ p, SegQ M A Φ (.forLoop target it body orelse env) (M.den (.forLoop target it body orelse env))
      (.ret (fun r => ((match r with | .ok f => (.pure f : Sem Flow) | .error e => .raise e).onRaise (cameBack env)).wrap K H gd lv) none (gd false) (lv []) c p [] :: fs) s₂)
      (fun x s' => SegQ M A Φ c (H x) fs s') s₁) (fun x s' => SegQ M A Φ c (H x) fs s') s) :
    SegQ M A Φ c ((exec (.For target iter body orelse pos) env).wrap K H gd lv) fs s := by
  rw [exec_For]
  refine sq_bind_wrap (wpAny_standAt ?_)
  refine sq_bind_wrap (wpAny_mono h (fun x s₁ h₁ => ?_) fun _ _ x => x)
  refine sq_bind_wrap (wpAny_of_eq (hs x) ?_)
  refine sq_bind_wrap (wpAny_standAt ?_)
  refine sq_bind_wrap (wpAny_holding (wpAny_mono h₁ (fun it s₂ h₂ => ?_) fun _ _ x => x))
  exact sq_call h₂
theorem sq_Yield {e : Expr} {ypos pos : Pos} (hfs : splitAtGen fs = none)
    (h : wpAny M (A.over c fs) (eval e env) (fun v s' => ∀ g l k p, g = gd false → (∀ s'', SegQ M A Φ c (K .next) fs s'' → SegQ M A Φ c (k (.send .none)) fs s'') → (∀ {Ψ : End → Shared → Prop} s'', SegQ M A Ψ c (K .next) fs s'' → SegQ M A Ψ c (k (.send .none)) fs s'') → Φ (.susp v g l k c p fs) s')
      (fun x s' => SegQ M A Φ c (H x) fs s') s) (hco : env.scope.isCoroutine = false := by rfl) (hi : interactive env = false := by rfl) :
    SegQ M A Φ c ((exec (.Expr (.Yield (some e) ypos) pos) env).wrap K H gd lv) fs s := by
  rw [exec_Expr env _ pos hi rfl]
  show SegQ M A Φ c (.at pos fun _ => ((eval e env >>= fun v => (standAt ypos >>= fun _ => yieldOut env v)) >>= fun x => dropValue (.Yield (some e) ypos) pos x).wrap K H gd lv) fs s
  have hy : ∀ v, yieldOut env v = yieldValue v := fun v => by simp only [yieldOut, hco, Bool.false_eq_true, if_false]
  simp only [hy]
  refine sq_at ?_
  rw [Sem.bind_eq_wrap', Sem.bind_eq_wrap', Sem.wrap_wrap, Sem.wrap_wrap]
  refine sq_wrap (wpAny_mono h (fun v s' h' => ?_) fun _ _ x => x)
  refine sq_at (sq_yield hfs fun p => ?_)
  exact h' _ _ _ p rfl (fun s'' hx => hx) (fun s'' hx => hx)
end
section
variable {prog : Program} {w : World} {A : Around} {Φ : End → Shared → Prop} {fs : List Frame} {s : Shared} {env : Env}
/-- what leaves a loop's code by an exception -/
noncomputable def outOf (env : Env) (e : Value) : Sem PySem.Fin := (do noteFrame e env; theTreesLotGoes e : Sem Unit).wrap (fun _ => .raise e) .raise id id
theorem sq_forLoop {target : Expr} {it : Value} {body orelse : List Stmt}
    (h : wpAny (model prog w) (A.over (.forLoop target it body orelse env) fs) (pyNext it) (fun r s₁ => match r with
      | none => SegQ (model prog w) A Φ (.block orelse env) ((model prog w).den (.block orelse env)) fs s₁
      | some v => wpAny (model prog w) (A.over (.forLoop target it body orelse env) fs) (letOwnedTupleGo target it v) (fun _ s₂ =>
          wpAny (model prog w) (A.over (.forLoop target it body orelse env) fs) (assign target env v) (fun _ s₃ =>
            SegQ (model prog w) A Φ (.forLoop target it body orelse env) ((execs body env).wrap (fun f => match f with
              | .next | .cont => .pure (.again (.forLoop target it body orelse env))
              | .brk => .pure (.done .next)
              | .ret v => .pure (.done (.ret v))) (outOf env) id id) fs s₃) (fun _ _ => False) s₂) (fun _ _ => False) s₁)
      (fun _ _ => False) s) :
    SegQ (model prog w) A Φ (.forLoop target it body orelse env) ((model prog w).den (.forLoop target it body orelse env)) fs s := by
  show SegQ _ A Φ _ ((forTurn target it body orelse env).onRaise (fun x => do noteFrame x env; theTreesLotGoes x)) fs s
  unfold forTurn
  rw [Sem.onRaise_eq_wrap]
  refine sq_bind_wrap (wpAny_standAt ?_)
  refine sq_bind_wrap (wpAny_onRaise (wpAny_mono h (fun r s₁ h₁ => ?_) fun _ _ x => x.elim))
  cases r with
  | none => exact sq_again rfl h₁
  | some v =>
    refine sq_bind_wrap (wpAny_mono h₁ (fun _ s₂ h₂ => ?_) fun _ _ x => x.elim)
    refine sq_bind_wrap (wpAny_mono h₂ (fun _ s₃ h₃ => ?_) fun _ _ x => x.elim)
    rw [Sem.bind_eq_wrap', Sem.wrap_wrap]
    rw [Sem.wrap_congr (execs body env) _ _ (K' := fun f => match f with
            | .next | .cont => .pure (.again (.forLoop target it body orelse env))
            | .brk => .pure (.done .next)
            | .ret v => .pure (.done (.ret v))) (H' := outOf env)
        (fun f => by cases f <;> rfl)
        (fun e => by first | exact Sem.bind_eq_wrap _ _ | (show (do noteFrame e env; theTreesLotGoes e : Sem Unit).bind (fun _ => .raise e) = _; unfold outOf; rw [Sem.bind_eq_wrap]))]
    exact h₃
end
end T3
namespace T3
open PySem PySem.Spec PyProof.Rows L2
/-! ### all that rests is kept -/
noncomputable def restG (b : Shared) : Nat → Prop := fun i => ∃ x, b.gens[i]? = some x ∧ isSus x = true
noncomputable def sealAll (b : Shared) : Shared := { b with gens := b.gens.map sealG }
theorem sealG_no {x : GenState} (h : isSus x = false) : sealG x = x := by cases x <;> first | rfl | cases h
theorem sealG_bare (x : GenState) : (sealG x).bare = x.bare := by cases x <;> rfl
theorem sealAll_seal (b : Shared) : Seal (restG b) (sealAll b) b := by
  refine ⟨rfl, by simp [sealAll], fun i h => ?_, fun i x h e => ?_, fun i h => ?_, fun i k l c p fs cl h e => ?_⟩
  · obtain ⟨x, e, _⟩ := h
    simp only [sealAll, Array.size_map]
    exact (Array.getElem?_eq_some_iff.mp e).1
  · obtain ⟨y, e2, hy⟩ := h
    rw [e] at e2
    cases e2
    exact ⟨by simp [sealAll, e], hy⟩
  · simp only [sealAll, Array.getElem?_map]
    cases e : b.gens[i]? with
    | none => rfl
    | some x =>
      have : isSus x = false := by
        cases hx : isSus x with
        | false => rfl
        | true => exact absurd ⟨x, e, hx⟩ h
      simp [sealG_no this]
  · exact absurd ⟨_, e, rfl⟩ h
theorem sealAll_bare {b : Shared} (h : AllBare b.gens) : AllBare (sealAll b).gens := fun x hx => by
  obtain ⟨y, hy, rfl⟩ := Array.mem_map.mp hx
  rw [sealG_bare]
  exact h y hy
theorem back_bare {G : Nat → Prop} {a b b' : Shared} (s : Seal G a b') (k : ∀ i, G i → b'.gens[i]? = b.gens[i]?) (ha : AllBare a.gens) (hb : AllBare b.gens) : AllBare b'.gens := fun x hx => by
  obtain ⟨i, hi, e⟩ := Array.mem_iff_getElem.mp hx
  have e' : b'.gens[i]? = some x := by rw [Array.getElem?_eq_getElem hi, e]
  by_cases g : G i
  · rw [k i g] at e'
    exact hb x (Array.mem_of_getElem? e')
  · rw [← s.off i g] at e'
    exact ha x (Array.mem_of_getElem? e')
/-- what rests is kept -/
noncomputable def KG (s s' : Shared) : Prop := ∀ (i : Nat) (x : GenState), s.gens[i]? = some x → isSus x = true → s'.gens[i]? = some x
theorem KG.refl (s : Shared) : KG s s := fun _ _ e _ => e
theorem KG.trans {a b c : Shared} (h : KG a b) (k : KG b c) : KG a c := fun i x e hx => k i x (h i x e hx) hx
section
variable {X : Cx} {pins : List (Addr × Obj)} {σ : L2.St} {H : Hp} {s s' : Shared}
theorem inv_gens {g : Array GenState} (I : Inv X pins σ H s) (h : AllBare g) : Inv X pins σ H { s with gens := g } := ⟨I.ok, I.os, h, I.base, I.loc, I.cell, I.free, I.freeC, I.pin, I.hok, I.len⟩
theorem inv_sealed (I : Inv X pins σ H s) : Inv X pins σ H (sealAll s) := inv_gens I (sealAll_bare I.bare)
theorem inv_unsealed {G : Nat → Prop} {a b : Shared} (I : Inv X pins σ H a) (se : Seal G a s') (k : ∀ i, G i → s'.gens[i]? = b.gens[i]?) (hb : AllBare b.gens) : Inv X pins σ H s' := by
  have h := back_bare se k I.bare hb
  rw [se.rest]
  exact inv_gens I h
end
theorem wpAny_keepG {α : Type} {M : Model} {A : Around} {b : Shared} {t : Sem α} {Q : α → Shared → Prop} {E : Value → Shared → Prop} (h : wpAny M A t Q E (sealAll b)) :
    wpAny M A t (fun x b' => KG b b' ∧ ∃ a', Seal (restG b) a' b' ∧ (∀ i, restG b i → b'.gens[i]? = b.gens[i]?) ∧ Q x a') (fun x b' => KG b b' ∧ ∃ a', Seal (restG b) a' b' ∧ (∀ i, restG b i → b'.gens[i]? = b.gens[i]?) ∧ E x a') b := by
  have kg : ∀ {b'}, (∀ i, restG b i → b'.gens[i]? = b.gens[i]?) → KG b b' := fun k i x e hx => (k i ⟨x, e, hx⟩).trans e
  exact wpAny_mono (wpAny_seal (sealAll_seal b) h) (fun x b' ⟨a', s, k, q⟩ => ⟨kg k, a', s, k, q⟩) fun x b' ⟨a', s, k, q⟩ => ⟨kg k, a', s, k, q⟩
/-! ### the heap below a place -/
noncomputable def trunc (L : Addr) (h : Heap) : Heap := { h with objs := h.objs.take L }
theorem trunc_get {L : Addr} {h : Heap} {b : Addr} : (trunc L h).get? b = if b < L then h.get? b else none := by
  unfold trunc Heap.get?
  by_cases hb : b < L
  · have e : (h.objs.take L)[b]? = h.objs[b]? := by
      rw [Array.take_eq_extract, Array.getElem?_extract]
      split
      · simp
      · rename_i z
        refine (Array.getElem?_eq_none ?_).symm
        rw [Nat.sub_zero, Nat.lt_min] at z
        exact Nat.not_lt.mp fun q => z ⟨hb, q⟩
    rw [if_pos hb]
    simp only [e]
  · have e : (h.objs.take L)[b]? = none := by
      rw [Array.take_eq_extract, Array.getElem?_extract]
      split
      · rename_i z
        rw [Nat.sub_zero, Nat.lt_min] at z
        exact absurd z.1 hb
      · rfl
    rw [if_neg hb]
    simp only [e]
theorem trunc_some {L : Addr} {h : Heap} {b : Addr} {o : Obj} (e : (trunc L h).get? b = some o) : b < L ∧ h.get? b = some o := by
  rw [trunc_get] at e
  split at e
  · exact ⟨by assumption, e⟩
  · cases e
theorem trunc_size {L : Addr} {h : Heap} : (trunc L h).objs.size ≤ L := by simp [trunc]; omega
theorem trunc_of {L : Addr} {h : Heap} {b : Addr} {o : Obj} (e : h.get? b = some o) (hb : b < L) : (trunc L h).get? b = some o := by rw [trunc_get, if_pos hb]; exact e
end T3
namespace T3
open PySem PySem.Spec PyProof.Rows L2
/-- a generator's frame -/
structure GF where
  P : Program
  w : World
  K : PySem.W.Frag
  mg : Str → Option Value
  base : Heap
  cl : ClT
  B : Addr → Prop
  A : Around
  outer : List Env
  N : List Str
  qual : Str
  sc : Scope
  L : Addr
  f : Addr
  cd : Value
  g : Nat
  a : Addr
  k : Nat
abbrev GF.env (C : GF) : Env := envOfC C.qual C.sc C.L C.f C.cd
noncomputable def GF.X (C : GF) (s : Shared) (H : Hp) : Cx where
  prog := C.P
  w := C.w
  K := C.K
  mg := C.mg
  base := C.base
  A := C.A.deeper C.env
  N := C.N
  s_0 := { s with heap := trunc C.L s.heap }
  H_0 := H
  env := C.env
  outer := C.outer
  stack := C.env :: C.outer
  ex := []
  fn := fun _ => true
  calm := true
  pn := []
  xe := fun _ _ => False
/-- what stands through its life -/
structure GF.Ok (C : GF) : Prop where
  kind : C.sc.kind = .function
  co : C.sc.isCoroutine = false
  nd : C.N.Nodup
  loc : ∀ x ∈ C.N, C.sc.names.lookup x = some .local
  noc : ∀ x, C.sc.names.lookup x ≠ some .cell ∧ C.sc.names.lookup x ≠ some .free
  cells : ∀ n, cellsFrom n C.sc.names [] = []
  hd : C.A.handled = none
  room : Room C.k (C.A.deeper C.env)
  guards : (C.A.deeper C.env).guards = some []
  bl : C.base.objs.size ≤ C.L
  fl : ∀ b ∈ frs C.outer, b < C.L
  al : C.L ≤ C.a
/-- the state when it is woken -/
structure GF.Aw (C : GF) (s : Shared) (H : Hp) : Prop where
  e0 : Env0 C.P C.w C.K C.mg C.base C.A C.outer s H
abbrev Pins := List (Addr × Obj)
noncomputable def PinsAt (L : Addr) (pins : Pins) (s : Shared) (H : Hp) : Prop := ∀ p ∈ pins, L ≤ p.1 ∧ s.heap.get? p.1 = some p.2 ∧ H p.1 = none ∧ ∀ v, p.2.data ≠ .cell v
theorem trunc_frames {L : Addr} {h base : Heap} {l : List Env} (hl : h.FunFrames base l) (hL : ∀ b ∈ frs l, b < L) : (trunc L h).FunFrames base l := by
  induction l with
  | nil => trivial
  | cons env r ih =>
    obtain ⟨hk, ⟨b, o, hf, hn, ho, hd⟩, hr⟩ := hl
    refine ⟨hk, ⟨b, o, hf, hn, trunc_of ho (hL b ?_), hd⟩, ih hr fun b hb => hL b ?_⟩
    · unfold frs; rw [List.filterMap_cons, hf]; exact List.mem_cons_self
    · unfold frs; rw [List.filterMap_cons, hf]; exact List.mem_cons_of_mem _ hb
theorem GF.xok {C : GF} (h : C.Ok) {s : Shared} {H : Hp} (w : C.Aw s H) (hl : C.L ≤ s.heap.objs.size) : (C.X s H).Ok := by
  have kd : ∀ x, (C.env.kindOf x = some .cell ∨ C.env.kindOf x = some .free) → False := fun x hx => by
    rcases hx with hx | hx
    · exact (h.noc x).1 hx
    · exact (h.noc x).2 hx
  have nc : ∀ x c, C.env.cells.lookup x = some c → False := fun x c e => by
    have : C.env.cells = [] := h.cells _
    rw [this] at e
    cases e
  exact ⟨w.e0.mod, h.kind, rfl, rfl, trunc_size, fun x y c e => (nc x c e).elim, fun x hx => (kd x hx).elim, fun x c _ e => (nc x c e).elim, fun _ => h.hd, Around.frames_deeper w.e0.frames, .inr ⟨rfl, rfl⟩, fun b hb => absurd hb (by simp [GF.X]),
    fun b o e => ⟨trunc_of (w.e0.bs b o e).1 (Nat.lt_of_lt_of_le (Heap.lt_size e) h.bl), (w.e0.bs b o e).2⟩, by
      show C.base.objs.size ≤ (trunc C.L s.heap).objs.size
      have e1 : (trunc C.L s.heap).objs.size = min C.L s.heap.objs.size := by simp [trunc, Array.take_eq_extract]
      rw [e1]
      exact Nat.le_min.mpr ⟨h.bl, w.e0.bsz⟩, fun b o _ hb => absurd hb (by simp [GF.X]), fun b hb => absurd hb (by simp [GF.X]), trunc_frames w.e0.funs h.fl, w.e0.frf⟩
/-- woken: its frame stands as it was left -/
theorem GF.wake {C : GF} (h : C.Ok) {s : Shared} {H : Hp} (w : C.Aw s H) {pins : Pins} {σ : L2.St} {mL : Str → Option Value} (hn : s.heap.Ns C.L mL) (hs : ∀ (i : Nat) (x : Str) (v : V), C.N[i]? = some x → σ[i]? = some (some v) → ∃ u, RelV v u ∧ C.sc.names.lookup x = some .local ∧ mL x = some u)
    (hp : PinsAt C.L pins s H) (hpl : ∀ p ∈ pins, p.1 ≠ C.L) (hf : H C.L = none) (hl : σ.length = C.N.length) : Inv (C.X s H) pins σ H s := by
  have nc : ∀ x c, C.env.cells.lookup x = some c → False := fun x c e => by
    have : C.env.cells = [] := h.cells _
    rw [this] at e
    cases e
  refine ⟨C.xok h w (Nat.le_of_lt hn.lt), rfl, w.e0.bare, ⟨fun b o e _ _ _ => (trunc_some e).2, fun b o e _ _ _ => ⟨o.slots, (trunc_some e).2⟩, fun b o _ n _ => n, fun b o e _ => ⟨o, (trunc_some e).2⟩, fun _ _ e => e, fun _ _ _ e => e, fun b ps e => ⟨#[], by rw [show (C.X s H).H_0 = H from rfl] at e; rw [e]; simp⟩⟩,
    ⟨mL, hn, fun i x v h1 h2 _ => ?_⟩, fun x c e => (nc x c e).elim, hf, fun x c e => (nc x c e).elim, fun p q => ?_, w.e0.hok, hl⟩
  · obtain ⟨u, r, hk, e⟩ := hs i x v h1 h2
    exact ⟨u, r, .inl ⟨hk, e⟩⟩
  · have q : p ∈ pins := by simpa [GF.X] using q
    obtain ⟨h1, h2, h3, h4⟩ := hp p q
    exact ⟨h2, h3, hpl p q, fun z => absurd (h.fl p.1 z) (Nat.not_lt.mpr h1), h4⟩
/-- behind a piece of a generator's run, in the frame that asked: all that is older than the generator is as it was -/
theorem inv_after {X : Cx} {pins : Pins} {σ : L2.St} {H H' : Hp} {s s' : Shared} {L : Addr} (I : Inv X pins σ H s) (u : Un (frs X.stack) [] H H' (trunc L s.heap) s'.heap) (hok : HOk X.prog X.w H' s'.heap) (hb : AllBare s'.gens) (ho : s'.os = s.os)
    (h0 : X.s_0.heap.objs.size ≤ L) (hl : X.env.locals < L) (hc : ∀ x c, X.env.cells.lookup x = some c → c < L) (hp : ∀ p ∈ X.pn ++ pins, p.1 < L) (hex : ∀ b ∈ frs X.stack, b < L) : Inv X pins σ H' s' := by
  obtain ⟨m, ⟨o, es, ep, hlo, r⟩, _⟩ := id I.loc
  obtain ⟨sl, hL⟩ := u.any (trunc_of hlo hl) I.free (by simp)
  obtain ⟨h', g', d', t', o'⟩ := s'
  have e : o' = s.os := ho
  subst e
  have low : ∀ b o, b ∉ List.range' L (s.heap.objs.size - L) → s.heap.get? b = some o → (trunc L s.heap).get? b = some o := fun b o hb e => by
    refine trunc_of e (Nat.not_le.mp fun q => hb ?_)
    rw [List.mem_range'_1]
    have h1 := Heap.lt_size e
    refine ⟨q, ?_⟩
    rw [Nat.add_sub_cancel' (Nat.le_trans q (Nat.le_of_lt h1))]
    exact h1
  refine I.step (g' := g') (d' := d') (t' := t') (ch := List.range' L (s.heap.objs.size - L)) (fun b hb => ?_) (fun b o hL' hb hc' e n => u.keep b o (low b o hc' e) n (fun z => (List.mem_cons.mp (I.stkSub b z)).elim hL' hb) (by simp))
    (fun b o _ _ hc' e n => u.any (low b o hc' e) n (by simp)) (fun b o hc' e n => u.free b o (low b o hc' e) n (by simp)) (fun b o hc' e => u.there b o (low b o hc' e) (by simp)) u.tups u.frzs u.tbls (fun m' hm => ?_) hok hb
  · have q := (List.mem_range'_1.mp hb).1
    refine ⟨.inr (Nat.le_trans h0 q), Nat.ne_of_gt (Nat.lt_of_lt_of_le hl q), fun x c e => Nat.ne_of_lt (Nat.lt_of_lt_of_le (hc x c e) q), fun p hp' => Nat.ne_of_lt (Nat.lt_of_lt_of_le (hp p hp') q)⟩
  · obtain ⟨o', es', ep', ho', r'⟩ := hm
    rw [hlo] at ho'
    cases ho'
    exact ⟨_, es', ep', hL, r'⟩
end T3
namespace T3
open PySem PySem.Spec PyProof.Rows L2
abbrev IG := List (Nat × GenState)
noncomputable def HeldG (I : IG) (s : Shared) : Prop := ∀ q ∈ I, s.gens[q.1]? = some q.2 ∧ isSus q.2 = true
noncomputable def GenObj (o : Obj) (g : Nat) : Prop := o.cls = .type "generator" ∧ o.slots = #[] ∧ ∃ nm qn, o.data = .fields #[.int g 0, nm, qn]
theorem GenObj.is {o : Obj} {g : Nat} (h : GenObj o g) {hp : Heap} {a : Addr} (e : hp.get? a = some o) : hp.IsGen a g := let ⟨h1, h2, nm, qn, h3⟩ := h; ⟨o, nm, qn, e, h1, h3, h2⟩
/-- a walk's state at its rest or end -/
structure EndF (C : GF) (s0 : Shared) (H0 : Hp) (m : List Addr) (S : Store) (Ow : Nat → Prop) (H' : Hp) (s1 : Shared) : Prop where
  st : Step H0 m H' m
  ok : Ok C.K C.cl C.B H' m S
  os : s1.os = s0.os
  bare : AllBare s1.gens
  un : Un (frs C.outer) [] H0 H' (trunc C.L s0.heap) s1.heap
  hok : HOk C.P C.w H' s1.heap
  kept : ∀ (i : Nat) (x : GenState), ¬ Ow i → s0.gens[i]? = some x → isSus x = true → s1.gens[i]? = some x
  run : s1.gens[C.g]? = some .running
noncomputable def endR (C : GF) (s0 : Shared) (H0 : Hp) (m : List Addr) (S : Store) (Ow : Nat → Prop) (e : End) (s1 : Shared) : Prop :=
  match e with
  | .ret r => (r = .ok (.ret .none) ∨ r = .ok .next) ∧ ∃ H', EndF C s0 H0 m S Ow H' s1
  | _ => False
noncomputable def endY (C : GF) (s0 : Shared) (H0 : Hp) (m : List Addr) (S : Store) (Ow : Nat → Prop) (W : GenState → Pins → IG → Hp → Prop) (d : D) (e : End) (s1 : Shared) : Prop :=
  match e with
  | .susp v gd l k c p fs => (End.susp v gd l k c p fs).quiet = true ∧ splitAtGen fs = none ∧ ∃ x H' O I, RelV x v ∧ Rep C.K C.cl (NN C.B m) H' x d ∧ EndF C s0 H0 m S Ow H' s1 ∧ PinsAt C.L O s1 H' ∧ (∃ go, (C.a, go) ∈ O ∧ GenObj go C.g) ∧
      HeldG I s1 ∧ (∀ q ∈ I, q.1 ≠ C.g ∧ (Ow q.1 ∨ ∀ x, s0.gens[q.1]? = some x → isSus x = false)) ∧ W (End.susp v gd l k c p fs).genState O I H'
  | _ => False
noncomputable def GoQ (C : GF) (gs : GenState) (Φ : End → Shared → Prop) (s : Shared) : Prop :=
  match gs with
  | .fresh c => SegQ (model C.P C.w) C.A Φ c ((model C.P C.w).den c) [] s
  | .suspended k _ c _ fs _ => SegQ (model C.P C.w) C.A Φ c (k (.send .none)) fs s
  | _ => False
noncomputable def own (C : GF) (I : IG) : Nat → Prop := fun i => i = C.g ∨ ∃ q ∈ I, q.1 = i
/-- a generator at rest: what it hands out yet -/
noncomputable def Wk (C : GF) : List D → GenState → Pins → IG → Hp → List Addr → Prop
  | [], gs, O, I, H1, m1 => ∀ s H m S, Step H1 m1 H m → Ok C.K C.cl C.B H m S → C.Aw s H → PinsAt C.L O s H → HeldG I s → s.gens[C.g]? = some .running → GoQ C gs (endR C s H m S (own C I)) s
  | d :: r, gs, O, I, H1, m1 => ∀ s H m S, Step H1 m1 H m → Ok C.K C.cl C.B H m S → C.Aw s H → PinsAt C.L O s H → HeldG I s → s.gens[C.g]? = some .running →
      GoQ C gs (endY C s H m S (own C I) (fun gs' O' I' H' => Wk C r gs' O' I' H' m) d) s
noncomputable def Phi (C : GF) (s0 : Shared) (H0 : Hp) (m : List Addr) (S : Store) (Ow : Nat → Prop) : List D → End → Shared → Prop
  | [] => endR C s0 H0 m S Ow
  | d :: r => endY C s0 H0 m S Ow (fun gs O I H' => Wk C r gs O I H' m) d
theorem wk_iff {C : GF} {rem : List D} {gs : GenState} {O : Pins} {I : IG} {H1 : Hp} {m1 : List Addr} : Wk C rem gs O I H1 m1 ↔ ∀ s H m S, Step H1 m1 H m → Ok C.K C.cl C.B H m S → C.Aw s H → PinsAt C.L O s H → HeldG I s → s.gens[C.g]? = some .running → GoQ C gs (Phi C s H m S (own C I) rem) s := by
  cases rem <;> exact Iff.rfl
/-- a fact that stays -/
noncomputable def Mon (C : GF) (F : List Addr → Hp → Prop) : Prop := ∀ H m H' m' S, Ok C.K C.cl C.B H m S → Step H m H' m' → F m H → F m' H'
/-- running since it was woken at s0 -/
structure Rn (C : GF) (s0 : Shared) (H0 : Hp) (m : List Addr) (S : Store) (Ow : Nat → Prop) (pins : Pins) (I : IG) (F : List Addr → Hp → Prop) (ρ : Slots) (s : Shared) : Prop where
  ex : ∃ σ H, Inv (C.X s0 H0) pins σ H s ∧ EnvOk C.K C.cl (NN C.B m) H m σ ρ ∧ Ok C.K C.cl C.B H m S ∧ Step H0 m H m ∧ F m H
  run : s.gens[C.g]? = some .running
  held : HeldG I s
  mine : ∀ q ∈ I, q.1 ≠ C.g ∧ (Ow q.1 ∨ ∀ x, s0.gens[q.1]? = some x → isSus x = false)
  oth : ∀ (i : Nat) (x : GenState), ¬ Ow i → s0.gens[i]? = some x → isSus x = true → s.gens[i]? = some x
  low : ∀ p ∈ pins, C.L ≤ p.1
  gen : ∃ go, (C.a, go) ∈ pins ∧ GenObj go C.g
  sz : C.L ≤ s0.heap.objs.size
/-- where its code stands -/
structure GP (C : GF) (c : Code) (fs : List Frame) (gd : Bool → Bool) : Prop where
  over : C.A.over c fs = C.A.deeper C.env
  split : splitAtGen fs = none
  guard : fs.any Frame.guarded = false
  gd : gd false = false
/-- a piece of its text: from ρ it hands out these, then stands at ρ' -/
noncomputable def GJ (C : GF) (t : Sem Flow) (ρ : Slots) (outs : List D) (ρ' : Slots) : Prop :=
  ∀ (c : Code) (fs : List Frame) (K : Flow → Sem PySem.Fin) (J : Value → Sem PySem.Fin) (gd : Bool → Bool) (lv : List Value → List Value), GP C c fs gd → ∀ (rem : List D) (pins : Pins) (I : IG) (F : List Addr → Hp → Prop), Mon C F →
    (∀ s0 H0 m S Ow s, Rn C s0 H0 m S Ow pins I F ρ' s → SegQ (model C.P C.w) C.A (Phi C s0 H0 m S Ow rem) c (K .next) fs s) →
    ∀ s0 H0 m S Ow s, Rn C s0 H0 m S Ow pins I F ρ s → SegQ (model C.P C.w) C.A (Phi C s0 H0 m S Ow (outs ++ rem)) c (t.wrap K J gd lv) fs s
section
variable {C : GF} {s0 : Shared} {H0 : Hp} {m : List Addr} {S : Store} {Ow : Nat → Prop} {pins : Pins} {I : IG} {F : List Addr → Hp → Prop} {ρ ρ' ρ1 : Slots} {s : Shared}
theorem Rn.endf (r : Rn C s0 H0 m S Ow pins I F ρ s) : ∃ H', EndF C s0 H0 m S Ow H' s := by
  obtain ⟨σ, H, I, e, o, st, f⟩ := r.ex
  exact ⟨H, st, o, I.os, I.bare, I.base, I.hok, r.oth, r.run⟩
/-- a plain piece of its code -/
theorem rn_run {α : Type} {t : Sem α} {A : Around} {σ : L2.St} {H : Hp} {G : α → L2.St → Hp → Prop} (I0 : Inv (C.X s0 H0) pins σ H s) (h : ∀ s', Inv (C.X s0 H0) pins σ H s' → wpAny (model C.P C.w) A t (fun u s1 => ∃ σ' H', Inv (C.X s0 H0) pins σ' H' s1 ∧ G u σ' H') (fun _ _ => False) s') :
    wpAny (model C.P C.w) A t (fun u s1 => KG s s1 ∧ ∃ σ' H', Inv (C.X s0 H0) pins σ' H' s1 ∧ G u σ' H') (fun _ _ => False) s := by
  refine wpAny_mono (wpAny_keepG (h _ (inv_sealed I0))) (fun u s1 ⟨k, a', se, kk, σ', H', I1, q⟩ => ⟨k, σ', H', inv_unsealed I1 se kk I0.bare, q⟩) fun _ _ ⟨_, _, _, _, q⟩ => q
theorem Rn.go (r : Rn C s0 H0 m S Ow pins I F ρ s) {s1 : Shared} (k : KG s s1) {F1 : List Addr → Hp → Prop} (ex : ∃ σ H, Inv (C.X s0 H0) pins σ H s1 ∧ EnvOk C.K C.cl (NN C.B m) H m σ ρ1 ∧ Ok C.K C.cl C.B H m S ∧ Step H0 m H m ∧ F1 m H) : Rn C s0 H0 m S Ow pins I F1 ρ1 s1 :=
  ⟨ex, k _ _ r.run rfl, fun q hq => let ⟨a, b⟩ := r.held q hq; ⟨k _ _ a b, b⟩, r.mine, fun i x h e hx => k _ _ (r.oth i x h e hx) hx, r.low, r.gen, r.sz⟩
theorem same_m {H H' : Hp} {m m' : List Addr} {S : Store} {K : PySem.W.Frag} {cl : ClT} {B : Addr → Prop} (o : Ok K cl B H m S) (st : Step H m H' m') (o' : Ok K cl B H' m' S) : m' = m := by
  obtain ⟨r, rfl, _⟩ := st.ext
  have h1 := o.len
  have h2 := o'.len
  rw [List.length_append] at h2
  have : r = [] := List.eq_nil_of_length_eq_zero (by omega)
  rw [this, List.append_nil]
theorem Mon.step (hF : Mon C F) {H H' : Hp} {m m' : List Addr} {S : Store} (o : Ok C.K C.cl C.B H m S) (st : Step H m H' m') (f : F m H) : F m' H' := hF _ _ _ _ _ o st f
theorem mon_rep {x : V} {d : D} : Mon C fun m H => Rep C.K C.cl (NN C.B m) H x d := fun _ _ _ _ _ o st h => h.mono (st.kp fun a h => (o.foreign a h).2)
theorem Mon.and {F G : List Addr → Hp → Prop} (h : Mon C F) (k : Mon C G) : Mon C fun m H => F m H ∧ G m H := fun _ _ _ _ _ o st q => ⟨h _ _ _ _ _ o st q.1, k _ _ _ _ _ o st q.2⟩
/-- an expression's value -/
theorem rn_eval {e : Expr} {ce : CE} {d : D} (hF : Mon C F) (he : ∀ s H, PE (C.X s H) e (tM C.K C.cl W0 ce)) (hd : ∀ S, ce ρ S = .ok (.val d) S) (r : Rn C s0 H0 m S Ow pins I F ρ s) :
    wpAny (model C.P C.w) (C.A.deeper C.env) (eval e C.env) (fun u s1 => ∃ x, RelV x u ∧ Rn C s0 H0 m S Ow pins I (fun m H => F m H ∧ Rep C.K C.cl (NN C.B m) H x d) ρ s1) (fun _ _ => False) s := by
  obtain ⟨σ, H, I0, en, o, st, f⟩ := r.ex
  refine wpAny_mono (rn_run (G := fun u σ' H' => σ' = σ ∧ ∃ x, RelV x u ∧ Step H m H' m ∧ Ok C.K C.cl C.B H' m S ∧ Rep C.K C.cl (NN C.B m) H' x d) I0 fun s' I' => ?_) (fun u s1 ⟨k, σ', H', I1, e1, x, rx, st1, o1, r1⟩ => ?_) fun _ _ q => q
  · refine wpAny_mono ((he s0 H0).run pins s' σ H (fun v H' => Step H m H' m ∧ Ok C.K C.cl C.B H' m S ∧ Rep C.K C.cl (NN C.B m) H' v d) I' ⟨C.B, m, S, ρ, o, en, ?_⟩) (fun u s1 ⟨v, H', I1, rv, q1, q2, q3⟩ => ⟨σ, H', I1, rfl, v, rv, q1, q2, q3⟩) fun _ _ q => q
    rw [hd]
    intro v H' m' st' o' r'
    have := same_m o st' o'
    subst this
    exact ⟨st', o', r'⟩
  · subst e1
    exact ⟨x, rx, r.go k ⟨_, H', I1, st1.env o en, o1, st.trans st1, hF.step o st1 f, r1⟩⟩
theorem rn_test {e : Expr} {ce : CE} {b : Bool} (hF : Mon C F) (he : ∀ s H, PT (C.X s H) e (tMT C.K C.cl W0 ce)) (hd : ∀ S, ce ρ S = .ok (.val (.bl b)) S) (r : Rn C s0 H0 m S Ow pins I F ρ s) :
    wpAny (model C.P C.w) (C.A.deeper C.env) (isTrue e C.env (eval e C.env)) (fun u s1 => u = b ∧ Rn C s0 H0 m S Ow pins I F ρ s1) (fun _ _ => False) s := by
  obtain ⟨σ, H, I0, en, o, st, f⟩ := r.ex
  refine wpAny_mono (rn_run (G := fun u σ' H' => σ' = σ ∧ u = b ∧ Step H m H' m ∧ Ok C.K C.cl C.B H' m S) I0 fun s' I' => ?_) (fun u s1 ⟨k, σ', H', I1, e1, eu, st1, o1⟩ => ?_) fun _ _ q => q
  · refine wpAny_mono ((he s0 H0).run pins s' σ H (fun v H' => v = b ∧ Step H m H' m ∧ Ok C.K C.cl C.B H' m S) I' ⟨C.B, m, S, ρ, o, en, ?_⟩) (fun u s1 ⟨H', I1, q0, q1, q2⟩ => ⟨σ, H', I1, rfl, q0, q1, q2⟩) fun _ _ q => q
    rw [hd]
    intro H' m' st' o'
    have := same_m o st' o'
    subst this
    exact ⟨rfl, st', o'⟩
  · subst e1
    exact ⟨eu, r.go k ⟨_, H', I1, st1.env o en, o1, st.trans st1, hF.step o st1 f⟩⟩
/-! ### rules -/
theorem gj_nil : GJ C (execs [] C.env) ρ [] ρ := fun c fs K J gd lv g rem pins I F hF hk s0 H0 m S Ow s r => sq_execs_nil (hk _ _ _ _ _ _ r)
theorem gj_cons {st : Stmt} {rest : List Stmt} {o1 o2 : List D} {ρ2 : Slots} (h1 : GJ C (exec st C.env) ρ o1 ρ1) (h2 : GJ C (execs rest C.env) ρ1 o2 ρ2) : GJ C (execs (st :: rest) C.env) ρ (o1 ++ o2) ρ2 := fun c fs K J gd lv g rem pins I F hF hk s0 H0 m S Ow s r => by
  refine sq_execs_cons ?_
  rw [List.append_assoc]
  exact h1 c fs _ J gd lv g (o2 ++ rem) pins I F hF (fun s0 H0 m S Ow s r => h2 c fs K J gd lv g rem pins I F hF hk s0 H0 m S Ow s r) s0 H0 m S Ow s r
theorem gj_one {st : Stmt} {o1 : List D} (h1 : GJ C (exec st C.env) ρ o1 ρ1) : GJ C (execs [st] C.env) ρ o1 ρ1 := by
  have := gj_cons h1 gj_nil
  rwa [List.append_nil] at this
theorem gj_if {e : Expr} {x y : List Stmt} {pos : Pos} {ce : CE} {b : Bool} {outs : List D} (he : ∀ s H, PT (C.X s H) e (tMT C.K C.cl W0 ce)) (hd : ∀ S, ce ρ S = .ok (.val (.bl b)) S) (h : GJ C (execs (if b = true then x else y) C.env) ρ outs ρ') : GJ C (exec (.If e x y pos) C.env) ρ outs ρ' := fun c fs K J gd lv g rem pins I F hF hk s0 H0 m S Ow s r => by
  refine sq_If ?_
  rw [g.over]
  refine wpAny_mono (rn_test hF he hd r) (fun u s1 ⟨eu, r1⟩ => ?_) fun _ _ q => q.elim
  subst eu
  exact h c fs K J gd lv g rem pins I F hF hk s0 H0 m S Ow s1 r1
end
end T3
namespace T3
open PySem PySem.Spec PyProof.Rows L2
section
variable {C : GF} {s0 : Shared} {H0 : Hp} {m : List Addr} {S : Store} {Ow : Nat → Prop} {pins : Pins} {I : IG} {F : List Addr → Hp → Prop} {ρ ρ' ρ1 : Slots} {s : Shared}
/-- what is pinned at a rest, and how it wakes -/
theorem Rn.rest (h : C.Ok) (hF : Mon C F) (r : Rn C s0 H0 m S Ow pins I F ρ s) {P : List Addr → Hp → Prop} (hP : ∀ H, F m H → P m H) : ∃ H' O, EndF C s0 H0 m S Ow H' s ∧ P m H' ∧ PinsAt C.L O s H' ∧ (∃ go, (C.a, go) ∈ O ∧ GenObj go C.g) ∧
    ∀ s2 H2 m2 S2, Step H' m H2 m2 → Ok C.K C.cl C.B H2 m2 S2 → C.Aw s2 H2 → PinsAt C.L O s2 H2 → HeldG I s2 → s2.gens[C.g]? = some .running → Rn C s2 H2 m2 S2 (own C I) pins I F ρ s2 := by
  obtain ⟨σ, H, I0, en, o, st, f⟩ := r.ex
  obtain ⟨mL, hn, hl⟩ := id I0.loc
  obtain ⟨oL, es, ep, ho, hd, hrest⟩ := hn
  have ic : ∀ p ∈ pins, p ∈ (C.X s0 H0).pn ++ pins := fun p hp => List.mem_append_right _ hp
  refine ⟨H, (C.L, oL) :: pins, ⟨st, o, I0.os, I0.bare, I0.base, I0.hok, r.oth, r.run⟩, hP H f, fun p hp => ?_, ?_, fun s2 H2 m2 S2 st2 o2 w2 pn2 hg2 run2 => ?_⟩
  · rcases List.mem_cons.mp hp with rfl | hp
    · exact ⟨Nat.le_refl _, ho, I0.free, fun v z => by rw [hd] at z; cases z⟩
    · obtain ⟨h1, h2, _, _, h5⟩ := I0.pin p (ic p hp)
      exact ⟨r.low p hp, h1, h2, h5⟩
  · obtain ⟨go, h1, h2⟩ := r.gen
    exact ⟨go, List.mem_cons_of_mem _ h1, h2⟩
  · obtain ⟨_, hL2, hL0, _⟩ := pn2 (C.L, oL) List.mem_cons_self
    have hn2 : s2.heap.Ns C.L mL := ⟨oL, es, ep, hL2, hd, hrest⟩
    refine ⟨⟨σ, H2, C.wake h w2 hn2 (fun i x v h1 h2 => ?_) (fun p hp => pn2 p (List.mem_cons_of_mem _ hp)) (fun p hp => (I0.pin p (ic p hp)).2.2.1) hL0 I0.len, st2.env o en, o2, Step.refl, hF.step o st2 f⟩, run2, hg2,
      fun q hq => ⟨(r.mine q hq).1, .inl (.inr ⟨q, hq, rfl⟩)⟩, fun i x _ e _ => e, r.low, r.gen, Nat.le_of_lt hn2.lt⟩
    have hx := h.loc x (List.mem_of_getElem? h1)
    obtain ⟨u, ru, lk⟩ := hl i x v h1 h2 (.inl hx)
    refine ⟨u, ru, hx, ?_⟩
    rcases lk with ⟨_, lk⟩ | ⟨lk, _⟩
    · exact lk
    · rcases lk with lk | lk
      · exact absurd (show C.sc.names.lookup x = some .cell from lk) (h.noc x).1
      · exact absurd (show C.sc.names.lookup x = some .free from lk) (h.noc x).2
theorem gj_yield (h : C.Ok) {e : Expr} {yp pos : Pos} {ce : CE} {d : D} (he : ∀ s H, PE (C.X s H) e (tM C.K C.cl W0 ce)) (hd : ∀ S, ce ρ S = .ok (.val d) S) (hi : interactive C.env = false := by rfl) : GJ C (exec (.Expr (.Yield (some e) yp) pos) C.env) ρ [d] ρ :=
    fun c fs K J gd lv g rem pins I F hF hk s0 H0 m S Ow s r => by
  refine sq_Yield g.split ?_ h.co hi
  rw [g.over]
  refine wpAny_mono (rn_eval hF he hd r) (fun u s1 ⟨x, rx, r1⟩ => ?_) fun _ _ q => q.elim
  intro gl l k p hgl _ hkk
  obtain ⟨H', O, ef, rp, pn, gn, wk⟩ := r1.rest h (hF.and mon_rep) (P := fun m H => Rep C.K C.cl (NN C.B m) H x d) fun H q => q.2
  refine ⟨?_, g.split, x, H', O, I, rx, rp, ef, pn, gn, r1.held, r1.mine, ?_⟩
  · simp [End.quiet, hgl, g.gd, g.guard]
  · show Wk C rem _ O I H' m
    rw [wk_iff]
    intro s2 H2 m2 S2 st2 o2 w2 pn2 hg2 run2
    have r2 := wk s2 H2 m2 S2 st2 o2 w2 pn2 hg2 run2
    obtain ⟨σ2, H3, I3, e3, o3, st3, f3⟩ := r2.ex
    exact hkk s2 (hk s2 H2 m2 S2 (own C I) s2 ⟨⟨σ2, H3, I3, e3, o3, st3, f3.1⟩, r2.run, r2.held, r2.mine, r2.oth, r2.low, r2.gen, r2.sz⟩)
end
end T3
namespace T3
open PySem PySem.Spec PyProof.Rows L2
section
variable {C : GF} {s0 : Shared} {H0 : Hp} {m : List Addr} {S : Store} {Ow : Nat → Prop} {pins : Pins} {I : IG} {F : List Addr → Hp → Prop} {ρ ρ' ρ1 : Slots} {s : Shared}
theorem sq_block_nil {A : Around} {Φ : End → Shared → Prop} {fs : List Frame} {env : Env} {prog : Program} {w : World} {k : Result → Sem PySem.Fin} {h : Option Value} {g : Bool} {l kp : List Value} {c₁ : Code} {p₁ : Pos} (hk : SegQ (model prog w) A Φ c₁ (k (.ok .next)) fs s) :
    SegQ (model prog w) A Φ (.block [] env) ((model prog w).den (.block [] env)) (.ret k h g l c₁ p₁ kp :: fs) s := by
  show SegQ _ _ _ _ (do return Fin.done (← (execs [] env).onRaise (fun x => do noteFrame x env; theTreesLotGoes x))) _ s
  exact sq_leaf (.ok .next) hk
theorem gp_loop {c c' : Code} {fs : List Frame} {gd : Bool → Bool} {k : Result → Sem PySem.Fin} {l kp : List Value} {p : Pos} (g : GP C c fs gd) (hw : c'.weight = 0) (hu : c'.cUnits = 0) : GP C c' (.ret k none (gd false) l c p kp :: fs) id where
  over := (GenW.over_loop hw hu).trans g.over
  split := by show (splitAtGen fs).map _ = none; rw [g.split]; rfl
  guard := by show (gd false || fs.any Frame.guarded) = false; rw [g.gd, g.guard]; rfl
  gd := rfl
/-- the turns of a loop -/
inductive Lp (C : GF) (t : CT) (body : List Stmt) : List D → Slots → List D → Slots → Prop
  | nil {ρ : Slots} : Lp C t body [] ρ [] ρ
  | cons {d : D} {r o1 o2 : List D} {ρ ρ1 ρ2 ρ3 : Slots} : (∀ S, t (.val d) ρ S = some (ρ1, S)) → GJ C (execs body C.env) ρ1 o1 ρ2 → Lp C t body r ρ2 o2 ρ3 → Lp C t body (d :: r) ρ (o1 ++ o2) ρ3
/-- a target is stored -/
theorem rn_assign (hF : Mon C F) {tg : Expr} {g : TG} {t : CT} {x : V} {u : Value} {d : D} (hg : ∀ s H, PG (C.X s H) tg g) (ht : TgOk C.K C.cl g t) (hd : ∀ S, t (.val d) ρ S = some (ρ1, S)) (rx : RelV x u) (r : Rn C s0 H0 m S Ow pins I (fun m H => F m H ∧ Rep C.K C.cl (NN C.B m) H x d) ρ s) :
    wpAny (model C.P C.w) (C.A.deeper C.env) (assign tg C.env u) (fun _ s1 => Rn C s0 H0 m S Ow pins I F ρ1 s1) (fun _ _ => False) s := by
  obtain ⟨σ, H, I0, en, o, st, f, rd⟩ := r.ex
  refine wpAny_mono (rn_run (G := fun _ σ' H' => Step H m H' m ∧ Ok C.K C.cl C.B H' m S ∧ EnvOk C.K C.cl (NN C.B m) H' m σ' ρ1) I0 fun s' I' => ?_) (fun u s1 ⟨k, σ', H', I1, st1, o1, e1⟩ => ?_) fun _ _ q => q
  · refine wpAny_mono ((hg s0 H0).run pins s' σ H x u (fun σ' H' => Step H m H' m ∧ Ok C.K C.cl C.B H' m S ∧ EnvOk C.K C.cl (NN C.B m) H' m σ' ρ1) I' rx ?_) (fun _ s1 q => q) fun _ _ q => q
    refine ht (x := .val d) o en rd (hd S) fun σ' H' m' st' o' e' => ?_
    have := same_m o st' o'
    subst this
    exact ⟨st', o', e'⟩
  · exact r.go k ⟨σ', H', I1, e1, o1, st.trans st1, hF.step o st1 f⟩
theorem Rn.weakF {G : List Addr → Hp → Prop} (r : Rn C s0 H0 m S Ow pins I F ρ s) (h : ∀ m H, F m H → G m H) : Rn C s0 H0 m S Ow pins I G ρ s :=
  ⟨let ⟨σ, H, a, b, c, d, f⟩ := r.ex; ⟨σ, H, a, b, c, d, h _ _ f⟩, r.run, r.held, r.mine, r.oth, r.low, r.gen, r.sz⟩
/-- the loop's turns -/
theorem sq_turns (h : C.Ok) {tg : Expr} {body : List Stmt} {g : TG} {t : CT} {live : (Addr → Prop) → Hp → Prop} {J : It} {xs : List D} {fp : List Addr} {it : Addr} {tn : Nat → Heap → Prop} (hF : Mon C F) (hlv : Mon C fun m H => live (NN C.B m) H) (src : Src C.K C.cl live J xs) (T : Turn C.P C.w C.K tg J fp it tn)
    (hg : ∀ s H, PG (C.X s H) tg g) (ht : TgOk C.K C.cl g t) {c0 : Code} {p0 : Pos} {fs : List Frame} {gd : Bool → Bool} {k : Result → Sem PySem.Fin} {l kp : List Value} (gp : GP C c0 fs gd) (low : ∀ b ∈ fp, C.L ≤ b) (apart : ∀ b ∈ fp, b ≠ C.L ∧ ∀ p ∈ pins, p.1 ≠ b) (gn : ∃ go, (C.a, go) ∈ pins ∧ GenObj go C.g)
    {rem : List D} {ρ' : Slots} (hk : ∀ s0 H0 m S Ow s, Rn C s0 H0 m S Ow pins I F ρ' s → SegQ (model C.P C.w) C.A (Phi C s0 H0 m S Ow rem) c0 (k (.ok .next)) fs s) :
    ∀ {ys : List D} {ρ : Slots} {outs : List D}, Lp C t body ys ρ outs ρ' → ∀ (i : Nat), ys = xs.drop i → i ≤ xs.length → ∀ s0 H0 m S Ow s hh, tn i hh → Rn C s0 H0 m S Ow (pins ++ pinsAt fp hh) I (fun m H => F m H ∧ live (NN C.B m) H) ρ s →
      SegQ (model C.P C.w) C.A (Phi C s0 H0 m S Ow (outs ++ rem)) (.forLoop tg (.ref it) body [] C.env) ((model C.P C.w).den (.forLoop tg (.ref it) body [] C.env)) (.ret k none (gd false) l c0 p0 kp :: fs) s := by
  have gl : GP C (.forLoop tg (.ref it) body [] C.env) (.ret k none (gd false) l c0 p0 kp :: fs) id := gp_loop gp rfl rfl
  have fpok : ∀ {s0 : Shared} {H0 H : Hp}, C.L ≤ s0.heap.objs.size → (∀ b ∈ fp, H b = none) → ∀ b ∈ fp, FpOk (C.X s0 H0) pins H b := fun {s0 H0 H} hs hn b hb => by
    refine ⟨hn b hb, (apart b hb).1, fun z => absurd (h.fl b z) (Nat.not_lt.mpr (low b hb)), .inr (Nat.le_trans trunc_size (low b hb)), fun x c e => ?_, fun p hp => (apart b hb).2 p (by simpa [GF.X] using hp)⟩
    have : C.env.cells = [] := h.cells _
    rw [show (C.X s0 H0).env.cells = C.env.cells from rfl, this] at e
    cases e
  intro ys ρ outs lp
  induction lp with
  | @nil ρ =>
    intro i hi hle s0 H0 m S Ow s hh htn r
    have hs := r.sz
    have hi' : i = xs.length := by
      have := congrArg List.length hi
      simp at this
      omega
    subst hi'
    obtain ⟨σ, H, I0, en, o, st, f, lv⟩ := r.ex
    have hp := fun b hb o e => (I0.pin (b, o) (List.mem_append_right _ (List.mem_append_right _ (mem_pinsAt hb e))))
    have tn1 : tn xs.length s.heap := T.keep _ _ _ htn fun b hb o e => (hp b hb o e).1
    have hn : ∀ b ∈ fp, H b = none := fun b hb => by
      obtain ⟨o, e, _⟩ := T.obj _ _ htn b hb
      exact (hp b hb o e).2.1
    refine sq_forLoop ?_
    rw [gl.over]
    have sl := sealAll_seal s
    refine wpAny_mono (wpAny_seal sl (T.done (C.X s0 H0) rfl rfl rfl rfl xs.length pins (sealAll s) σ H (fun _ _ => False) (inv_sealed I0.unpinned) (fpok hs hn) tn1 (src.stop lv))) (fun u s1 ⟨a', se, kk, hu, I1⟩ => ?_) fun _ _ ⟨_, _, _, q⟩ => q
    subst hu
    have r1 : Rn C s0 H0 m S Ow pins I F ρ s1 := ⟨⟨σ, H, inv_unsealed I1 se kk I0.bare, en, o, st, f⟩, by rw [kk _ ⟨_, r.run, rfl⟩]; exact r.run, fun q hq => let ⟨a, b⟩ := r.held q hq; ⟨by rw [kk _ ⟨_, a, b⟩]; exact a, b⟩, r.mine,
      fun i x z e hx => by have := r.oth i x z e hx; rw [kk _ ⟨_, this, hx⟩]; exact this, fun p hp => r.low p (List.mem_append_left _ hp), gn, r.sz⟩
    exact sq_block_nil (hk _ _ _ _ _ _ r1)
  | @cons d r o1 o2 ρ ρ1 ρ2 ρ3 hd hb lp ih =>
    intro i hi hle s0 H0 m S Ow s hh htn rn
    have hs := rn.sz
    have hlt : i < xs.length := by
      have := congrArg List.length hi
      simp at this
      omega
    obtain ⟨σ, H, I0, en, o, st, f, lv⟩ := rn.ex
    have hp := fun b hb o e => (I0.pin (b, o) (List.mem_append_right _ (List.mem_append_right _ (mem_pinsAt hb e))))
    have tn1 : tn i s.heap := T.keep _ _ _ htn fun b hb o e => (hp b hb o e).1
    have hn : ∀ b ∈ fp, H b = none := fun b hb => by
      obtain ⟨o, e, _⟩ := T.obj _ _ htn b hb
      exact (hp b hb o e).2.1
    refine sq_forLoop ?_
    rw [gl.over]
    have sl := sealAll_seal s
    refine wpAny_mono (wpAny_seal sl (T.item (C.X s0 H0) rfl rfl rfl rfl i pins (sealAll s) σ H (fun _ _ => False) (inv_sealed I0.unpinned) (fpok hs hn) tn1 (src.go i lv hlt))) (fun u s1 ⟨a1, se1, kk1, v, hu, h2⟩ => ?_) fun _ _ ⟨_, _, _, q⟩ => q
    subst hu
    refine wpAny_mono (wpAny_seal se1 h2) (fun _ s2 ⟨a2, se2, kk2, x, H2, I2, rx, hy, htn2, hn2⟩ => ?_) fun _ _ ⟨_, _, _, q⟩ => q
    have kk : ∀ i, restG s i → s2.gens[i]? = s.gens[i]? := fun i hi => (kk2 i hi).trans (kk1 i hi)
    have J2 := inv_unsealed I2 se2 kk I0.bare
    obtain ⟨d', hd', st2, ok2, rd⟩ := src.yld i o lv hy
    have hd'' := hd' hlt
    have hxd : xs[i]? = some d := by
      have := congrArg (fun l => l[0]?) hi
      simpa using this.symm
    rw [hxd] at hd''
    cases hd''
    have htn3 : tn (i + 1) s2.heap := by rw [se2.heap]; exact htn2
    have r2 : Rn C s0 H0 m S Ow (pins ++ pinsAt fp s2.heap) I (fun m H => (F m H ∧ live (NN C.B m) H) ∧ Rep C.K C.cl (NN C.B m) H x d) ρ s2 := ⟨⟨σ, H2, J2.pinned (fpok hs hn2) (T.obj _ _ htn3), st2.env o en, ok2, st.trans st2, ⟨hF.step o st2 f, hlv.step o st2 lv⟩, rd⟩,
      by rw [kk _ ⟨_, rn.run, rfl⟩]; exact rn.run, fun q hq => let ⟨a, b⟩ := rn.held q hq; ⟨by rw [kk _ ⟨_, a, b⟩]; exact a, b⟩, rn.mine,
      fun i x z e hx => by have := rn.oth i x z e hx; rw [kk _ ⟨_, this, hx⟩]; exact this, fun p hp => by
        rcases List.mem_append.mp hp with hp | hp
        · exact rn.low p (List.mem_append_left _ hp)
        · exact low _ (of_pinsAt hp).1, by
        obtain ⟨go, h1, h2⟩ := gn
        exact ⟨go, List.mem_append_left _ h1, h2⟩, rn.sz⟩
    refine wpAny_mono (rn_assign (hF.and hlv) hg ht hd rx r2) (fun _ s3 r3 => ?_) fun _ _ q => q
    rw [List.append_assoc]
    refine hb _ _ _ _ id id gl (o2 ++ rem) (pins ++ pinsAt fp s2.heap) I (fun m H => F m H ∧ live (NN C.B m) H) (hF.and hlv) (fun s0 H0 m S Ow s r4 => ?_) s0 H0 m S Ow s3 r3
    refine sq_again rfl ?_
    exact ih hk (i + 1) (by rw [← List.drop_drop, ← hi]; rfl) hlt s0 H0 m S Ow s s2.heap htn3 r4
/-- for x in a list, a range -/
theorem gj_for (h : C.Ok) {tg iter : Expr} {body : List Stmt} {pos : Pos} {ci : CI} {g : TG} {t : CT} {xs : List D} {outs : List D} (hi : ∀ s H, PI (C.X s H) tg iter (tMI C.K C.cl W0 ci)) (hx : ∀ S, ci ρ S = .ok xs S)
    (hg : ∀ s H, PG (C.X s H) tg g) (ht : TgOk C.K C.cl g t) (lp : Lp C t body xs ρ outs ρ') (hs : ∀ x, foldedSetIterable iter C.env x = pure x := by intro _; rfl) : GJ C (exec (.For tg iter body [] pos) C.env) ρ outs ρ' :=
    fun c fs K J gd lv gp rem pins I F hF hk s0 H0 m S Ow s r => by
  obtain ⟨σ, H, I0, en, o, st, f⟩ := r.ex
  refine sq_For hs ?_
  rw [gp.over]
  let R : It → Hp → Prop := fun Jt H' => ∃ live, Step H m H' m ∧ Ok C.K C.cl C.B H' m S ∧ live (NN C.B m) H' ∧ Src C.K C.cl live Jt xs
  refine wpAny_mono (wpAny_seal (sealAll_seal s) ((hi s0 H0).run pins (sealAll s) σ H R (inv_sealed I0) ⟨C.B, m, S, ρ, o, en, ?_⟩)) (fun v s1 ⟨a1, se1, kk1, h2⟩ => ?_) fun _ _ ⟨_, _, _, q⟩ => q.elim
  · rw [hx]
    intro Jt live H' m' st' o' lv' src
    have := same_m o st' o'
    subst this
    exact ⟨live, st', o', lv', src⟩
  refine wpAny_mono (wpAny_seal se1 h2) (fun itv s2 ⟨a2, se2, kk2, it, fp, tn, Jt, H2, e, I2, T, tn0, fpk, live, st2, ok2, lv2, src⟩ => ?_) fun _ _ ⟨_, _, _, q⟩ => q.elim
  subst e
  have kk : ∀ i, restG s i → s2.gens[i]? = s.gens[i]? := fun i hi => (kk2 i hi).trans (kk1 i hi)
  have J2 := inv_unsealed I2 se2 kk I0.bare
  have tn2 : tn 0 s2.heap := by rw [se2.heap]; exact tn0
  have hL : ∀ b ∈ fp, C.L ≤ b := fun b hb => by
    have q := (fpk b hb).2.2.2.1
    rcases q with q | q
    · exact absurd q (by simp [GF.X])
    · have e1 : (C.X s0 H0).s_0.heap.objs.size = C.L := by
        show (trunc C.L s0.heap).objs.size = C.L
        have := r.sz
        simp [trunc, Array.take_eq_extract]
        exact Nat.min_eq_left this
      rw [e1] at q
      exact q
  intro p
  refine sq_turns h hF (fun H m H' m' S o st l => src.step o l st) src T hg ht gp hL (fun b hb => ⟨(fpk b hb).2.1, fun p hp => (fpk b hb).2.2.2.2.2 p (List.mem_append_right _ hp)⟩) r.gen (fun s0 H0 m S Ow s r4 => ?_) lp 0 (by simp) (Nat.zero_le _) s0 H0 m S Ow s2 s2.heap tn2
    ⟨⟨σ, H2, J2.pinned fpk (T.obj _ _ tn2), st2.env o en, ok2, st.trans st2, hF.step o st2 f, lv2⟩, by rw [kk _ ⟨_, r.run, rfl⟩]; exact r.run, fun q hq => let ⟨a, b⟩ := r.held q hq; ⟨by rw [kk _ ⟨_, a, b⟩]; exact a, b⟩, r.mine,
      fun i x z e hx => by have := r.oth i x z e hx; rw [kk _ ⟨_, this, hx⟩]; exact this, fun p hp => by
        rcases List.mem_append.mp hp with hp | hp
        · exact r.low p hp
        · exact hL _ (of_pinsAt hp).1, let ⟨go, h1, h2⟩ := r.gen; ⟨go, List.mem_append_left _ h1, h2⟩, r.sz⟩
  exact hk s0 H0 m S Ow s r4
end
end T3
namespace T3
open PySem PySem.Spec PyProof.Rows L2
/-- what a call of a generator def gives -/
noncomputable def GMade (P : Program) (w : World) (K : PySem.W.Frag) (mg : Str → Option Value) (base : Heap) (cl : ClT) (B : Addr → Prop) (A : Around) (outer : List Env) (s : Shared) (H : Hp) (m : List Addr) (xs : List D) (u : Value) (s' : Shared) : Prop :=
  ∃ (C : GF) (c : Code) (O : Pins), (C.P = P ∧ C.w = w ∧ C.K = K ∧ C.mg = mg ∧ C.base = base ∧ C.cl = cl ∧ C.B = B ∧ C.A = A.in1 ∧ C.outer = outer) ∧ C.Ok ∧ u = .ref C.a ∧ C.L = s.heap.objs.size ∧ C.g = s.gens.size ∧ s'.gens[C.g]? = some (.fresh c) ∧
    (∀ (i : Nat) (x : GenState), s.gens[i]? = some x → s'.gens[i]? = some x) ∧ s'.os = s.os ∧ AllBare s'.gens ∧ (∀ b o, s.heap.get? b = some o → s'.heap.get? b = some o) ∧ PinsAt C.L O s' H ∧ (∃ go, (C.a, go) ∈ O ∧ GenObj go C.g) ∧ Wk C xs (.fresh c) O [] H m
structure GDef (P : Program) (w : World) (K : PySem.W.Frag) (mg : Str → Option Value) (base : Heap) (cl : ClT) (k : Nat) (nm : Str) (n : Nat) (gf : List D → Option (List D)) : Prop where
  ex : ∃ (fa : Addr) (fd : FuncData) (ps : List Str), mg nm = some (.ref fa) ∧ PySem.W.keepIn K (.ref fa) = true ∧ Binds K fd ps [] ∧ ps.length = n ∧
    ∀ {A : Around} {outer : List Env} {s : Shared} {H : Hp} {B : Addr → Prop} {m : List Addr} {S : Store} {us : List Value} {vs : List V} {ds xs : List D}, A.guards = some [] → Room k A → Env0 P w K mg base A outer s H → BindsTo s fd ⟨us, []⟩ (ps.zip us) → Vals vs us →
      RepL K cl (NN B m) H vs ds → Ok K cl B H m S → gf ds = some xs → ds.length = n → codeAny (model P w) A (.call (.ref fa) ⟨us, []⟩) (fun r s' => match r with | .ok (.ret u) => GMade P w K mg base cl B A outer s H m xs u s' | _ => False) s
theorem sq_func {prog : Program} {w : World} {A : Around} {Φ : End → Shared → Prop} {fs : List Frame} {s : Shared} {env : Env} {body : List Stmt}
    (h : SegQ (model prog w) A Φ (.func body env) ((execs body env).wrap (fun f => .pure (.done (.ret (match f with | .ret v => v | _ => .none)))) (fun e => (leaving env e).wrap (fun _ => .raise e) .raise id id) id id) fs s) :
    SegQ (model prog w) A Φ (.func body env) ((model prog w).den (.func body env)) fs s := by
  show SegQ _ A Φ _ (.point [] fun _ => ((execs body env).onRaise (leaving env)) >>= _) fs s
  refine sq_point ?_
  rw [Sem.onRaise_eq_wrap, Sem.bind_eq_wrap', Sem.wrap_wrap]
  rw [Sem.wrap_congr (execs body env) _ _ (K' := fun f => .pure (.done (.ret (match f with | .ret v => v | _ => .none))))
    (H' := fun e => (leaving env e).wrap (fun _ => .raise e) .raise id id) (fun f => by cases f <;> rfl)
    (fun e => by rw [Sem.bind_eq_wrap, Sem.wrap_wrap]; rfl)]
  exact h
theorem repL_as {K : PySem.W.Frag} {cl : ClT} {N : Addr → Prop} {H : Hp} {m : List Addr} : ∀ {vs : List V} {ds : List D}, RepL K cl N H vs ds → RepAs K cl N H m vs (ds.map A.val)
  | _, _, .nil => .nil
  | _, _, .cons (d := d) h r => .cons (x := .val d) h (repL_as r)
theorem gen_of {P : Program} {w : World} {K : PySem.W.Frag} {mg : Str → Option Value} {base : Heap} {cl : ClT} {x qual : Str} {st : Stmt} {fa : Addr} {fd : FuncData} {N ps : List Str} {k n : Nat} {gf : List D → Option (List D)} (hm : mg x = some (.ref fa)) (hb : Binds K fd ps []) (hn : ps.length = n) (F : Fun K x qual st fa fd)
    (kind : (defScope st).kind = .function) (co : (defScope st).isCoroutine = false) (gen : (defScope st).isGenerator = true) (nd : N.Nodup) (pre : N.take ps.length = ps) (loc : ∀ x ∈ N, (defScope st).names.lookup x = some .local) (noc : ∀ x, (defScope st).names.lookup x ≠ some .cell ∧ (defScope st).names.lookup x ≠ some .free)
    (cells : ∀ n, cellsFrom n (defScope st).names [] = [])
    (body : ∀ (C : GF), C.P = P → C.w = w → C.K = K → C.mg = mg → C.base = base → C.cl = cl → C.N = N → C.sc = defScope st → C.k = k → C.Ok → ∀ ds xs, ds.length = n → gf ds = some xs → ∃ ρ', GJ C (execs (defBody st) C.env) (ds.map (fun d => some (A.val d)) ++ List.replicate (N.length - n) none) xs ρ') :
    GDef P w K mg base cl (k + 2) x n gf := by
  refine ⟨fa, fd, ps, hm, F.kp, hb, hn, ?_⟩
  obtain ⟨oc, od, kV, doc, pm, an, cdv, ct, osl, rfl, lk, hcd⟩ := F.ex
  intro A outer s H B m S us vs ds xs g room e0 hbt rv rl ok hgf hdl
  have old : ∀ b o, base.get? b = some o → s.heap.get? b = some o := fun b o q => (e0.bs b o q).1
  have kin := e0.mod.kin.keeps old
  have npl : ps.length ≤ N.length := by have := congrArg List.length pre; rw [List.length_take] at this; omega
  have kindp : ∀ y ∈ ps.zip us, (defScope st).names.lookup y.1 = some .local := fun y hy => by
    have := (List.of_mem_zip (a := y.1) (b := y.2) hy).1
    rw [← pre] at this
    exact loc _ (List.mem_of_mem_take this)
  refine codeAny_call_generator room.depth (kin _ _ lk) rfl co gen rfl (PySem.W.codeRec_of kin hcd) (hbt _ _ _ _ ?_)
  refine wpAny_newFunctionEnv_cells kind (fun y hy => .inl (kindp y hy)) fun env he s1 z => ?_
  subst he
  have nl1 := (e0.mod.nolimit.keeps old).keeps z.toInCall.keep
  refine ⟨nl1, ?_⟩
  obtain ⟨h1, tk, es1, hk1⟩ := z.done
  have gen1 : s1.gens = s.gens := by rw [es1]
  have lt1 : s.heap.objs.size < s1.heap.objs.size := z.toInCall.ns.lt
  obtain ⟨oL, eL, pL, hoL, hdL, hrL⟩ := id z.toInCall.ns
  have lvs : vs.length = n := by rw [rl.length, hdl]
  have lus : us.length = ps.length := by rw [← rv.length, lvs, hn]
  let C : GF := ⟨P, w, K, mg, base, cl, B, A.in1, outer, N, qual, defScope st, s.heap.objs.size, fa, cdv, s.gens.size, s1.heap.objs.size, k⟩
  have cok : C.Ok := ⟨kind, co, nd, loc, noc, cells, room.hd, (room.in1).deeper _, guards_deeper g, e0.bsz, fun b hb => by
    obtain ⟨_, o, ho, _⟩ := e0.funs.mem hb
    exact Heap.lt_size ho, Nat.le_of_lt lt1⟩
  have fresh : ∀ b, s.heap.objs.size ≤ b → H b = none := fun b hb => e0.hok.fresh hb
  have main : ∀ (go : Obj) (nm qn : Value) (tk2 : Nat), go.cls = .type "generator" → go.data = .fields #[.int s1.gens.size 0, nm, qn] → go.slots = #[] → (∀ h : Heap, (h.push go).get? h.objs.size = some go) →
      GMade P w K mg base cl B A outer s H m xs (.ref s1.heap.objs.size) { s1 with gens := s1.gens.push (.fresh (.func (defBody st) C.env)), toks := tk2, heap := s1.heap.push go } := by
    intro go nm qn tk2 hgc hgd hgs hgp
    refine ⟨C, .func (defBody st) C.env, [(C.L, oL), (C.a, go)], ⟨rfl, rfl, rfl, rfl, rfl, rfl, rfl, rfl, rfl⟩, cok, rfl, rfl, rfl, ?_, fun i y e => ?_, ?_, ?_, fun b o e => ?_, fun p hp => ?_, ⟨go, by simp, hgc, hgs, nm, qn, by rw [hgd, gen1]⟩, ?_⟩
    · show (s1.gens.push _)[s.gens.size]? = _
      rw [gen1]
      exact Array.getElem?_push_size ..
    · show (s1.gens.push _)[i]? = _
      rw [gen1, Array.getElem?_push]
      have := (Array.getElem?_eq_some_iff.mp e).1
      rw [if_neg (by omega)]
      exact e
    · show s1.os = s.os
      rw [es1]
    · exact AllBare.push (by rw [gen1]; exact e0.bare) rfl
    · exact Heap.get?_push_of_some _ (z.toInCall.keep b o e)
    · rcases List.mem_cons.mp hp with rfl | hp
      · exact ⟨Nat.le_refl _, Heap.get?_push_of_some _ hoL, fresh _ (Nat.le_refl _), fun v q => by rw [hdL] at q; cases q⟩
      · rw [List.mem_singleton.mp hp]
        exact ⟨Nat.le_of_lt lt1, hgp _, fresh _ (Nat.le_of_lt lt1), fun v q => by rw [hgd] at q; cases q⟩
    · rw [wk_iff]
      intro s2 H2 m2 S2 st2 o2 w2 pn2 hg2 run2
      obtain ⟨ρ', hj⟩ := body C rfl rfl rfl rfl rfl rfl rfl rfl rfl cok ds xs hdl hgf
      refine sq_func ?_
      have gp : GP C (.func (defBody st) C.env) [] id := ⟨GenW.over_func, rfl, rfl, rfl⟩
      have hj2 := hj _ [] (fun f => .pure (.done (.ret (match f with | .ret v => v | _ => .none)))) (fun e => (leaving C.env e).wrap (fun _ => .raise e) .raise id id) id id gp [] [(C.a, go)] [] (fun _ _ => True) (fun _ _ _ _ _ _ _ _ => True.intro) (fun s0 H0 m S Ow s r => ?_) s2 H2 m2 S2 (own C []) s2 ⟨⟨start N vs, H2, ?_, ?_, o2, Step.refl, True.intro⟩, run2, hg2, fun q hq => by simp at hq, fun i x _ e _ => e, fun p hp => by
          rw [List.mem_singleton.mp hp]; exact cok.al, ⟨go, by simp, hgc, hgs, nm, qn, by rw [hgd, gen1]⟩, ?_⟩
      · rw [List.append_nil] at hj2
        exact hj2
      · exact sq_end (.ok (.ret .none)) ⟨.inl rfl, r.endf⟩
      · obtain ⟨_, hL2, hL0, _⟩ := pn2 (C.L, oL) (by simp)
        refine C.wake cok w2 ⟨oL, eL, pL, hL2, hdL, hrL⟩ (fun i y v h1 h2 => ?_) (fun p hp => pn2 p (by rw [List.mem_singleton.mp hp]; simp)) (fun p hp => by rw [List.mem_singleton.mp hp]; exact Nat.ne_of_gt lt1) hL0 ?_
        · have hi : i < vs.length := by
            unfold L2.start at h2
            by_cases hi : i < vs.length
            · exact hi
            · rw [List.getElem?_append_right (by simpa using hi)] at h2
              rw [List.getElem?_replicate] at h2
              split at h2 <;> cases h2
          have ha : vs[i]? = some v := by
            unfold L2.start at h2
            rw [List.getElem?_append_left (by simpa using hi), List.getElem?_map] at h2
            cases e : vs[i]? with
            | none => rw [e] at h2; cases h2
            | some a => rw [e] at h2; cases h2; rfl
          obtain ⟨u, hu, ru⟩ := rv.get ha
          have hp : ps[i]? = some y := by
            rw [← pre, List.getElem?_take_of_lt (by omega)]; exact h1
          have ndP : ps.Nodup := by rw [← pre]; exact nd.sublist (List.take_sublist _ _)
          have hy := loc y (List.mem_of_getElem? h1)
          exact ⟨u, ru, hy, bindL_get ndP hp hu hy⟩
        · unfold L2.start
          show _ = N.length
          rw [List.length_append, List.length_map, List.length_replicate]
          omega
      · have rl2 : RepL K cl (NN B m2) H2 vs ds := rl.mono (st2.kp fun a h => (ok.foreign a h).2)
        have e := env_start (N := N) (repL_as (m := m2) rl2) (by omega)
        rw [List.map_map, List.length_map, hdl] at e
        exact e
      · obtain ⟨_, hL2, _⟩ := pn2 (C.L, oL) (by simp)
        exact Nat.le_of_lt (Heap.lt_size hL2)
  exact main _ _ _ _ rfl rfl rfl fun h => Heap.get?_push_size _ rfl
end T3
namespace T3
open PySem PySem.Spec PyProof.Rows L2
/-- a generator is woken -/
noncomputable def GoS (P : Program) (w : World) (A : Around) (gs : GenState) (Φ : End → Shared → Prop) (s : Shared) : Prop :=
  match gs with
  | .fresh c => SegQ (model P w) A Φ c ((model P w).den c) [] s
  | .suspended k _ c _ fs _ => SegQ (model P w) A Φ c (k (.send .none)) fs s
  | _ => False
theorem resumeS {P : Program} {w : World} {A : Around} {Φ : End → Shared → Prop} {E : Value → Shared → Prop} {s : Shared} {g : Nat} {gs : GenState} {l : List Value} {α : Type} {k : GenResult → Sem α} {Q : α → Shared → Prop} (hg : s.gens[g]? = some gs)
    (hgo : GoS P w A gs Φ (s.setGen g .running)) (hq : ∀ e s₁, Φ e s₁ → e.quiet = true) (hR : ∀ e s₁, Φ e s₁ → wpAny (model P w) A (k e.result) Q E (s₁.setGen g e.genState)) : wpAny (model P w) A (.resume g (.send .none) l k) Q E s := by
  intro Γ p hΓ
  rw [Sem.wp_resume]
  have hB : ∀ c, (Γ.wake c p).Woken A := fun c => hΓ.wake c p
  cases gs with
  | fresh c =>
    obtain ⟨e₁, s₁, hr, he⟩ := hgo (Γ.wake c p) p rfl (hB c)
    exact ⟨_, _, by unfold Wakes; rw [hg]; exact ⟨e₁, s₁, hr, hq e₁ s₁ he, rfl, rfl⟩, hR e₁ s₁ he Γ p hΓ⟩
  | suspended k₀ l₀ c₀ p₀ fs₀ cl =>
    obtain ⟨e₁, s₁, hr, he⟩ := hgo (Γ.wake c₀ p) p₀ rfl (hB c₀)
    exact ⟨_, _, by unfold Wakes; rw [hg]; exact ⟨e₁, s₁, hr, hq e₁ s₁ he, rfl, rfl⟩, hR e₁ s₁ he Γ p hΓ⟩
  | running => exact hgo.elim
  | finished => exact hgo.elim
theorem nextS {P : Program} {w : World} {A : Around} {E : Value → Shared → Prop} {s : Shared} {a : Addr} {g : Nat} {gs : GenState} {Φ : End → Shared → Prop} {Q : Option Value → Shared → Prop} (hh : A.handled = none) (hl : s.heap.NoLimit) (hroom : A.depth < recursionLimit) (hg : s.heap.IsGen a g)
    (hgs : s.gens[g]? = some gs) (hgo : GoS P w A.in1 gs Φ (s.setGen g .running)) (hq : ∀ e s₁, Φ e s₁ → e.quiet = true) (hn : ∀ e s₁, Φ (.ret (.error e)) s₁ → False)
    (hY : ∀ v gd l k c p fs s₁, Φ (.susp v gd l k c p fs) s₁ → Q (some v) (s₁.setGen g (End.susp v gd l k c p fs).genState))
    (hP : ∀ f s₁, Φ (.ret (.ok f)) s₁ → (f = .ret .none ∨ f = .next) ∧ ∀ h', (∀ b o, s₁.heap.get? b = some o → h'.get? b = some o) → Q none { s₁.setGen g .finished with heap := h' }) :
    wpAny (model P w) A (pyNext (.ref a)) Q E s := by
  unfold pyNext
  refine wpAny_bind (wpAny_attempt (wpAny_callSpecial?_slot (name := Str.ofString "__next__") hg.typeIs slot_gen_next
    (wpAny_call_entry slot_gen_next hg.typeIs entry_gen_next ?_ (args_gen_next _))))
  show wpAny _ A.in1 (Builtin.Generator.genWake (.ref a) (.send .none)) _ _ s
  unfold Builtin.Generator.genWake
  refine wpAny_bind (wpAny_holding (wpAny_genNumber hg (wpAny_bind (wpAny_genState hgs ?_))))
  cases gs with
  | running => exact hgo.elim
  | finished => exact hgo.elim
  | _ =>
    refine wpAny_bind (wpAny_roomToWake hl hroom ?_)
    show wpAny _ A.in1 (.resume g (.send .none) [] _) _ _ s
    refine resumeS hgs hgo hq fun e s₁ he => ?_
    cases e with
    | ret r =>
      cases r with
      | error e => exact (hn e s₁ he).elim
      | ok f =>
        obtain ⟨hr, hp⟩ := hP f s₁ he
        have hres : (End.ret (.ok f)).result = .returned .none := by
          rcases hr with hr | hr <;> rw [hr] <;> rfl
        first | rw [hres] | simp only [hres]
        show wpAny _ A.in1 (newExc (.type "StopIteration") [] >>= _) _ _ _
        refine wpAny_bind ?_
        simp only [newExc, newTuple]
        refine wpAny_bind (wpAny_newObj_type ?_ (by size_fits))
        refine wpAny_bind (m := firstArgMember _ _) (wpAny_of_eq (a := Value.none) (by first | rfl | (simp only [firstArgMember]; rfl)) ?_)
        refine wpAny_newObj_type ?_ (by size_fits)
        simp only [raiseNew]
        refine wpAny_bind (wpAny_bind (wpAny_handled ?_))
        first | rw [show A.in1.handled = none from hh] | rw [hh]
        refine wpAny_throw ?_
        refine wpAny_bind (wpAny_isInstance (T := "StopIteration") (b := true) ⟨_, Heap.get?_push_size _ rfl, rfl⟩ isSubtype_stop ?_)
        exact wpAny_pure (hp _ fun b o hb => Heap.get?_push_of_some _ (Heap.get?_push_of_some _ hb))
    | susp v gd l k c p fs => exact wpAny_pure ⟨v, rfl, wpAny_pure (hY v gd l k c p fs s₁ he)⟩
end T3
namespace T3
open PySem PySem.Spec PyProof.Rows L2
/-- older than a place -/
structure Lo (X : Cx) (pins : Pins) (L : Addr) : Prop where
  s0 : X.s_0.heap.objs.size ≤ L
  loc : X.env.locals < L
  cell : ∀ x c, X.env.cells.lookup x = some c → c < L
  pin : ∀ p ∈ X.pn ++ pins, p.1 < L
  fr : ∀ b ∈ frs X.stack, b < L
theorem lo_of {X : Cx} {pins : Pins} {σ : L2.St} {H : Hp} {s : Shared} (I : Inv X pins σ H s) : Lo X pins s.heap.objs.size :=
  ⟨I.sz, I.lt, fun x c e => let ⟨v, q⟩ := I.cell x c e; q.lt, fun p hp => Heap.lt_size (I.pin p hp).1, fun b hb => by
    rcases List.mem_cons.mp (I.stkSub b hb) with z | z
    · rw [z]; exact I.lt
    · obtain ⟨_, o, ho, _⟩ := I.funs.mem z
      exact Heap.lt_size ho⟩
/-- a generator at rest, in the hands of a frame -/
structure HG (X : Cx) (cl : ClT) (B : Addr → Prop) (pins : Pins) (H : Hp) (m : List Addr) (C : GF) (gs : GenState) (O : Pins) (I : IG) (xs : List D) (s : Shared) : Prop where
  eqs : C.P = X.prog ∧ C.w = X.w ∧ C.K = X.K ∧ C.mg = X.mg ∧ C.base = X.base ∧ C.cl = cl ∧ C.B = B ∧ C.A = X.A.in1 ∧ C.outer = X.stack
  ok : C.Ok
  lo : Lo X pins C.L
  here : s.gens[C.g]? = some gs
  pn : PinsAt C.L O s H
  gen : ∃ go, (C.a, go) ∈ O ∧ GenObj go C.g
  held : HeldG I s
  ne : ∀ q ∈ I, q.1 ≠ C.g
  wk : Wk C xs gs O I H m
noncomputable def Kb (Ow : Nat → Prop) (s s' : Shared) : Prop := ∀ (i : Nat) (x : GenState), ¬ Ow i → s.gens[i]? = some x → isSus x = true → s'.gens[i]? = some x
section
variable {X : Cx} {cl : ClT} {B : Addr → Prop} {pins : Pins} {σ : L2.St} {H : Hp} {m : List Addr} {S : Store} {s : Shared} {C : GF} {gs : GenState} {O : Pins} {I : IG}
theorem phi_quiet {s0 : Shared} {Ow : Nat → Prop} : ∀ {xs : List D} {e : End} {s1 : Shared}, Phi C s0 H m S Ow xs e s1 → e.quiet = true
  | _, .ret _, _, _ => rfl
  | [], .susp .., _, h => h.elim
  | _ :: _, .susp .., _, h => h.1
theorem setGen_bare {s : Shared} {g : Nat} {x : GenState} (h : AllBare s.gens) (hx : x.bare = true) : AllBare (s.setGen g x).gens := allBare_setGen h hx
/-- the next item -/
theorem pull {j : Nat} (hr : Room j X.A) (I0 : Inv X pins σ H s) (o : Ok X.K cl B H m S) : ∀ {xs : List D}, HG X cl B pins H m C gs O I xs s →
    wpAny (model X.prog X.w) X.A (pyNext (.ref C.a)) (fun r s' => Kb (own C I) s s' ∧ (match xs with
      | [] => r = none ∧ ∃ H', Inv X pins σ H' s' ∧ Step H m H' m ∧ Ok X.K cl B H' m S
      | d :: rest => ∃ u x H' gs' O' I', r = some u ∧ RelV x u ∧ Rep X.K cl (NN B m) H' x d ∧ Inv X pins σ H' s' ∧ Step H m H' m ∧ Ok X.K cl B H' m S ∧ isSus gs' = true ∧ HG X cl B pins H' m C gs' O' I' rest s' ∧
          ∀ q ∈ I', own C I q.1 ∨ ∀ x, s.gens[q.1]? = some x → isSus x = false)) (fun _ _ => False) s := by
  intro xs hg
  obtain ⟨P, w, K, mg, base, cl', B', A', outer, N, qual, sc, L, f, cd, g, a, k⟩ := C
  obtain ⟨⟨rfl, rfl, rfl, rfl, rfl, rfl, rfl, rfl, rfl⟩, cok, lo, here, pn, gen, held, ne, wk⟩ := hg
  dsimp only at *
  obtain ⟨go, hgo, hgo2⟩ := gen
  have hlt : g < s.gens.size := (Array.getElem?_eq_some_iff.mp here).1
  have e0 := I0.env0.in1
  have wk1 := wk_iff.mp wk (s.setGen g .running) H m S Step.refl o ⟨⟨e0.frames, e0.mod, e0.bs, e0.bsz, e0.funs, e0.frf, e0.hok, setGen_bare I0.bare rfl⟩⟩ pn (fun q hq => ⟨(setGen_ne (Ne.symm (ne q hq))).trans (held q hq).1, (held q hq).2⟩) (setGen_at hlt)
  refine nextS (Φ := Phi _ (s.setGen g .running) H m S _ xs) hr.hd I0.nolimit (by have := hr.dp; omega) (hgo2.is (pn (a, go) hgo).2.1) here wk1 (fun e s1 h => phi_quiet h) (fun e s1 h => ?_) (fun v gd l kk c p fs s1 h => ?_) (fun fl s1 h => ?_)
  · cases xs with
    | nil => obtain ⟨h | h, _⟩ := h <;> cases h
    | cons d r => exact h
  · cases xs with
    | nil => exact h.elim
    | cons d rest =>
      obtain ⟨hq, hsp, x, H', O', I', rx, rd, ef, pn', gn', hl', mine', wk'⟩ := h
      have kb : Kb (own ⟨X.prog, X.w, X.K, X.mg, X.base, cl', B', X.A.in1, X.stack, N, qual, sc, L, f, cd, g, a, k⟩ I) s (s1.setGen g (End.susp v gd l kk c p fs).genState) := fun i y hi e hy => by
        have hne : g ≠ i := fun z => hi (.inl z.symm)
        rw [setGen_ne hne]
        exact ef.kept i y hi ((setGen_ne hne).trans e) hy
      have hlt1 : g < s1.gens.size := (Array.getElem?_eq_some_iff.mp ef.run).1
      have I1 : Inv X pins σ H' (s1.setGen g (End.susp v gd l kk c p fs).genState) := inv_after (s' := s1.setGen g (End.susp v gd l kk c p fs).genState) I0 ef.un ef.hok (setGen_bare ef.bare (End.bare_of_quiet hq)) ef.os lo.s0 lo.loc lo.cell lo.pin lo.fr
      refine ⟨kb, v, x, H', _, O', I', rfl, rx, rd, I1, ef.st, ef.ok, rfl, ⟨⟨rfl, rfl, rfl, rfl, rfl, rfl, rfl, rfl, rfl⟩, cok, lo, setGen_at hlt1, pn', gn', fun q hq' => ⟨(setGen_ne (Ne.symm (mine' q hq').1)).trans (hl' q hq').1, (hl' q hq').2⟩, fun q hq' => (mine' q hq').1, wk'⟩, fun q hq' => ?_⟩
      rcases (mine' q hq').2 with z | z
      · exact .inl z
      · exact .inr fun y e => z y ((setGen_ne (Ne.symm (mine' q hq').1)).trans e)
  · cases xs with
    | cons d r => exact h.elim
    | nil =>
      obtain ⟨hr', H', ef⟩ := h
      refine ⟨by rcases hr' with z | z <;> cases z <;> simp, fun h' hk => ⟨fun i y hi e hy => ?_, rfl, H', ?_, ef.st, ef.ok⟩⟩
      · have hne : g ≠ i := fun z => hi (.inl z.symm)
        show (s1.setGen g .finished).gens[i]? = _
        rw [setGen_ne hne]
        exact ef.kept i y hi ((setGen_ne hne).trans e) hy
      · have I1 : Inv X pins σ H' (s1.setGen g .finished) := inv_after (s' := s1.setGen g .finished) I0 ef.un ef.hok (setGen_bare ef.bare rfl) ef.os lo.s0 lo.loc lo.cell lo.pin lo.fr
        exact I1.kept (t' := s1.toks) hk
end
end T3
namespace T3
open PySem PySem.Spec PyProof.Rows L2
/-- what an exception that leaves says does not hang on the sealed generators -/
noncomputable def XBack (X : Cx) : Prop := ∀ (G : Nat → Prop) (a b b' : Shared) (e : Value), Seal G a b' → (∀ i, G i → b'.gens[i]? = b.gens[i]?) → AllBare b.gens → X.xe e a → X.xe e b'
section
variable {X : Cx} {cl : ClT} {W : WX} {B : Addr → Prop} {pins : Pins} {σ : L2.St} {ρ : Slots} {H : Hp} {m : List Addr} {S : Store} {s : Shared}
theorem repL_of {N : Addr → Prop} : ∀ {vs : List V} {ds : List D}, RepAs X.K cl N H m vs (ds.map A.val) → RepL X.K cl N H vs ds
  | _, [], .nil => .nil
  | _, _ :: _, .cons h r => .cons h (repL_of r)
theorem eval_gen {k j n : Nat} {nm : Str} {gf : List D → Option (List D)} {e : Expr} {es : List Expr} {c : CA} {p pos : Pos} {ds xs : List D} (G : GDef X.prog X.w X.K X.mg X.base cl k nm n gf) (hr : Room j X.A) (hk : k ≤ j) (g : X.A.guards = some []) (hg : Gl X nm)
    (ha : PA X (e :: es) (tML X.K cl W c)) (hdb : (nm == ("__debug__" : Str)) = false) (he : starEach (e :: es) X.env = (false, eval e X.env) :: starEach es X.env) (hpl : (backTo pos (starEach es X.env)).any (·.1) = false)
    {S1 : Store} (hd : c ρ S = .ok (ds.map A.val) S1) (hn : ds.length = n) (hgf : gf ds = some xs) (I : Inv X pins σ H s) (o : Ok X.K cl B H m S) (en : EnvOk X.K cl (NN B m) H m σ ρ) :
    wpAny (model X.prog X.w) X.A (eval (.Call (.Name nm p) (e :: es) [] pos) X.env) (fun u s' => ∃ s1 H1 m1, Inv X pins σ H1 s1 ∧ Step H m H1 m1 ∧ Ok X.K cl B H1 m1 S1 ∧ GMade X.prog X.w X.K X.mg X.base cl B X.A X.stack s1 H1 m1 xs u s') X.xe s := by
  obtain ⟨fa, fd, ps, hm, hkp, hb, hps, run⟩ := G.ex
  refine wpAny_Call_Name_kw (ld_glob I hg hm ?_ hdb)
  refine PySem.W.callWith_K (h₀ := X.base) I.ok.mod.kin hkp (thn (ha.run pos pins s σ H (fun vs H1 => ∃ m1, Step H m H1 m1 ∧ Ok X.K cl B H1 m1 S1 ∧ RepL X.K cl (NN B m1) H1 vs ds) I ⟨B, m, S, ρ, o, en, ?_⟩) fun us s1 ⟨vs, H1, I1, r, m1, st1, o1, rl⟩ => ⟨I1.kIn, ?_⟩) he hpl
  · rw [hd]
    intro vs H' m' st' o' r'
    exact ⟨m', st', o', repL_of r'⟩
  have hl : us.length = ps.length := by rw [← r.length, rl.length, hn, hps]
  have b := hb s1 us I1.kIn (by rw [List.append_nil]; exact hl)
  rw [List.append_nil] at b
  refine wpAny_call (codeAny_mono (run g (hr.mono hk) I1.env0 b r rl o1 hgf hn) fun res s' q => ?_)
  cases res with
  | error e => exact q.elim
  | ok fl =>
    cases fl with
    | ret u => exact ⟨s1, H1, m1, I1, st1, o1, q⟩
    | next | brk | cont => exact q.elim
theorem made_gen {k j n : Nat} {nm : Str} {gf : List D → Option (List D)} {e : Expr} {es : List Expr} {c : CA} {p pos : Pos} {ds xs : List D} (hX : XBack X) (G : GDef X.prog X.w X.K X.mg X.base cl k nm n gf) (hr : Room j X.A) (hk : k ≤ j) (g : X.A.guards = some []) (hg : Gl X nm)
    (ha : PA X (e :: es) (tML X.K cl W c)) (hdb : (nm == ("__debug__" : Str)) = false) (he : starEach (e :: es) X.env = (false, eval e X.env) :: starEach es X.env) (hpl : (backTo pos (starEach es X.env)).any (·.1) = false)
    {S1 : Store} (hd : c ρ S = .ok (ds.map A.val) S1) (hn : ds.length = n) (hgf : gf ds = some xs) (I : Inv X pins σ H s) (o : Ok X.K cl B H m S) (en : EnvOk X.K cl (NN B m) H m σ ρ) :
    wpAny (model X.prog X.w) X.A (eval (.Call (.Name nm p) (e :: es) [] pos) X.env) (fun u s' => KG s s' ∧ ∃ C cc O H1 m1, u = .ref C.a ∧ Inv X pins σ H1 s' ∧ Step H m H1 m1 ∧ Ok X.K cl B H1 m1 S1 ∧ HG X cl B pins H1 m1 C (.fresh cc) O [] xs s' ∧
      ∀ x, s.gens[C.g]? = some x → isSus x = false) X.xe s := by
  refine wpAny_mono (wpAny_seal (sealAll_seal s) (eval_gen G hr hk g hg ha hdb he hpl hd hn hgf (inv_sealed I) o en)) (fun u s' ⟨a', se, kk, s1, H1, m1, I1, st1, o1, C, cc, O, eqs, cok, eu, hL, hG, fr, kp, os, bare, hkp, pn, gn, wk⟩ => ?_) fun e s' ⟨a', se, kk, q⟩ => hX _ _ _ _ _ se kk I.bare q
  have Ia : Inv X pins σ H1 a' := I1.call' (ch := []) os (Un.kept hkp) (I1.hok.kept hkp) bare fun b z => by simp at z
  have Is := inv_unsealed Ia se kk I.bare
  have ng : ¬ restG s C.g := fun z => by
    have hlt := se.lt _ z
    have hsz : C.g < s'.gens.size := by rw [← se.size]; exact hlt
    obtain ⟨q1, q2⟩ := se.on C.g _ z (Array.getElem?_eq_getElem hsz)
    rw [fr] at q1
    cases hy : s'.gens[C.g] <;> rw [hy] at q1 q2 <;> simp [sealG, isSus] at q1 q2
  refine ⟨fun i x e hx => (kk i ⟨x, e, hx⟩).trans e, C, cc, O, H1, m1, eu, Is, st1, o1, ⟨eqs, cok, by rw [hL]; exact lo_of I1, by rw [← se.off _ ng]; exact fr, fun p hp => ?_, gn, fun q hq => by simp at hq, fun q hq => by simp at hq, wk⟩, fun x e => ?_⟩
  · obtain ⟨h1, h2, h3, h4⟩ := pn p hp
    exact ⟨h1, by rw [se.heap]; exact h2, h3, h4⟩
  · cases hx : isSus x with
    | false => rfl
    | true => exact absurd ⟨x, e, hx⟩ ng
theorem wk_mono {C : GF} {xs : List D} {gs : GenState} {O : Pins} {I : IG} {H1 H2 : Hp} {m1 m2 : List Addr} (w : Wk C xs gs O I H1 m1) (st : Step H1 m1 H2 m2) : Wk C xs gs O I H2 m2 :=
  wk_iff.mpr fun s H m S st2 => wk_iff.mp w s H m S (st.trans st2)
theorem HG.pinned {C : GF} {gs : GenState} {O : Pins} {I : IG} {xs : List D} (hg : HG X cl B pins H m C gs O I xs s) (I0 : Inv X pins σ H s) : Inv X (pins ++ O) σ H s := by
  refine I0.pins_of fun p hp => ?_
  rcases List.mem_append.mp hp with hp | hp
  · exact I0.pin p (List.mem_append_right _ hp)
  · obtain ⟨h1, h2, h3, h4⟩ := hg.pn p hp
    refine ⟨h2, h3, Nat.ne_of_gt (Nat.lt_of_lt_of_le hg.lo.loc h1), fun z => ?_, h4⟩
    have : p.1 ∈ frs X.stack := by
      rcases I0.ok.stk with e | ⟨e, hf⟩
      · rw [e]; exact z
      · rw [e]; unfold frs; rw [List.filterMap_cons, hf]; exact List.mem_cons_of_mem _ z
    exact absurd (hg.lo.fr p.1 this) (Nat.not_lt.mpr h1)
theorem HG.kept {C : GF} {gs : GenState} {O : Pins} {I : IG} {xs : List D} {H' : Hp} {m' : List Addr} {σ' : L2.St} {s' : Shared} (hg : HG X cl B pins H m C gs O I xs s) (hs : isSus gs = true) (k : KG s s') (I1 : Inv X (pins ++ O) σ' H' s') (st : Step H m H' m') : HG X cl B pins H' m' C gs O I xs s' :=
  ⟨hg.eqs, hg.ok, hg.lo, k _ _ hg.here hs, fun p hp => ⟨(hg.pn p hp).1, (I1.pin p (List.mem_append_right _ (List.mem_append_right _ hp))).1, (I1.pin p (List.mem_append_right _ (List.mem_append_right _ hp))).2.1, (hg.pn p hp).2.2.2⟩, hg.gen,
    fun q hq => ⟨k _ _ (hg.held q hq).1 (hg.held q hq).2, (hg.held q hq).2⟩, hg.ne, wk_mono hg.wk st⟩
/-! ### for x in a generator, in a plain def -/
noncomputable def sForG (n : Nat) (gf : List D → Option (List D)) (c : CA) (t : CT) (b : CS) : CS := fun ρ S => match c ρ S with
  | .ok xs S1 => (match valsOf xs with
    | some ds => if ds.length = n then (match gf ds with
      | some ys => forL (fun d ρ S => match t (.val d) ρ S with
        | some (ρ', S') => b ρ' S'
        | none => .bad) ys ρ S1
      | none => .bad) else .bad
    | none => .bad)
  | _ => .bad
theorem valsOf_vals : ∀ {xs : List A} {ds : List D}, valsOf xs = some ds → xs = ds.map A.val
  | [], _, h => by cases h; rfl
  | .val d :: r, ds, h => by
    simp only [valsOf, Option.map_eq_some_iff] at h
    obtain ⟨es, h, rfl⟩ := h
    rw [List.map_cons, ← valsOf_vals h]
  | .ref _ :: _, _, h => by cases h
theorem go_gen {M : Model} {A : Around} {E : Value → Shared → Prop} {tg : Expr} {a : Addr} {u : Value} {g : Nat} {Q : Unit → Shared → Prop} (h : s.heap.IsGen a g) (q : Q () s) : wpAny M A (letOwnedTupleGo tg (.ref a) u) Q E s := by
  obtain ⟨o, nm, qn, e, c, d, _⟩ := h
  exact go_of e c d (by decide) q
theorem pm_forG {k j n : Nat} {nm : Str} {gf : List D → Option (List D)} {tg e : Expr} {es : List Expr} {body : List Stmt} {c : CA} {g : TG} {t : CT} {b : CS} {p pos pos2 : Pos} (hp : PassesOwn (model X.prog X.w) X.A X.env X.xe) (hX : XBack X) (G : GDef X.prog X.w X.K X.mg X.base cl k nm n gf)
    (hr : Room j X.A) (gd : X.A.guards = some []) (hgl : Gl X nm) (ha : PA X (e :: es) (tML X.K cl W c)) (hg : PG X tg g) (ht : TgOk X.K cl g t) (hb : PSs X body (tMS X.K cl W b))
    (hk : k ≤ j := by decide) (hdb : (nm == ("__debug__" : Str)) = false := by decide) (he : starEach (e :: es) X.env = (false, eval e X.env) :: starEach es X.env := by rfl) (hpl : (backTo pos2 (starEach es X.env)).any (·.1) = false := by rfl)
    (hs : ∀ x, foldedSetIterable (.Call (.Name nm p) (e :: es) [] pos2) X.env x = pure x := by intro _; rfl) :
    PS X (.For tg (.Call (.Name nm p) (e :: es) [] pos2) body [] pos) (tMS X.K cl W (sForG n gf c t b)) := by
  refine ⟨fun pins s σ H EE I h => ?_⟩
  obtain ⟨B, m, S, ρ, o, en, fin⟩ := h
  unfold sForG at fin
  split at fin
  rotate_left
  · exact fin.elim
  rename_i as S1 hd
  split at fin
  rotate_left
  · exact fin.elim
  rename_i ds hv
  split at fin
  rotate_left
  · exact fin.elim
  rename_i hn
  split at fin
  rotate_left
  · exact fin.elim
  rename_i ys hgf
  let bd : D → CS := fun d ρ S => match t (.val d) ρ S with
    | some (ρ', S') => b ρ' S'
    | none => .bad
  rw [valsOf_vals hv] at hd
  refine wpAny_For (thn (made_gen hX G hr hk gd hgl ha hdb he hpl hd hn hgf I o en) fun u s1 ⟨_, C, cc, O, H1, m1, eu, I1, st1, o1, hg1, _⟩ => ?_) hs
  subst eu
  have ig : ∀ {gs : GenState} {O : Pins} {J : IG} {xs : List D} {H : Hp} {m : List Addr} {s : Shared}, HG X cl B pins H m C gs O J xs s → s.heap.IsGen C.a C.g := fun q => let ⟨go, h1, h2⟩ := q.gen; h2.is (q.pn (C.a, go) h1).2.1
  refine wpAny_pyIter_gen (ig hg1) ?_
  refine codeAny_forLoop_any (fun n' s' => ∃ gs O J xs σ' H' m' S' ρ', n' = xs.length ∧ Inv X pins σ' H' s' ∧ Ok X.K cl B H' m' S' ∧ EnvOk X.K cl (NN B m') H' m' σ' ρ' ∧ HG X cl B pins H' m' C gs O J xs s' ∧ FinS X.K cl B H' m' W (forL bd xs ρ' S') EE) ?_ ys.length
    ⟨_, O, [], ys, σ, H1, m1, S1, ρ, rfl, I1, o1, st1.env o en, hg1, FinS.step st1 fin⟩
  rintro n' s2 ⟨gs, O, J, xs, σ2, H2, m2, S2, ρ2, hn', I2, o2, en2, hg2, f2⟩
  refine wpAny_passesOwn hp (wpAny_noRaise (thn (pull hr I2 o2 hg2) fun r s3 ⟨kb, h3⟩ => ?_))
  cases xs with
  | nil =>
    obtain ⟨rfl, H3, I3, st3, o3⟩ := h3
    exact wpAny_execs_nil ⟨σ2, H3, I3, (FinS.step st3 f2).here o3 (st3.env o2 en2)⟩
  | cons d rest =>
    obtain ⟨u, x, H3, gs3, O3, J3, rfl, rx, rd, I3, st3, o3, su, hg3, _⟩ := h3
    have f3 := FinS.step st3 f2
    have f3 : FinS X.K cl B H3 m2 W (match bd d ρ2 S2 with
      | .nx ρ' S' => forL bd rest ρ' S'
      | .ct ρ' S' => forL bd rest ρ' S'
      | .bk ρ' S' => .nx ρ' S'
      | q => q) EE := f3
    refine wpAny_passesOwn hp (go_gen (ig hg3) ?_)
    cases htt : t (.val d) ρ2 S2 with
    | none =>
      have hb' : bd d ρ2 S2 = .bad := by show (match t (.val d) ρ2 S2 with | some (ρ', S') => b ρ' S' | none => .bad) = _; rw [htt]
      rw [hb'] at f3
      exact f3.elim
    | some z =>
      obtain ⟨ρ4, S4⟩ := z
      have hb' : bd d ρ2 S2 = b ρ4 S4 := by show (match t (.val d) ρ2 S2 with | some (ρ', S') => b ρ' S' | none => .bad) = _; rw [htt]
      rw [hb'] at f3
      have I3' := hg3.pinned I3
      refine wpAny_passesOwn hp (wpAny_mono (wpAny_keepG (hg.run (pins ++ O3) (sealAll s3) σ2 H3 x u (fun σ' H' => ∃ m', Step H3 m2 H' m' ∧ Ok X.K cl B H' m' S4 ∧ EnvOk X.K cl (NN B m') H' m' σ' ρ4) (inv_sealed I3') rx ?_)) (fun _ s4 ⟨kg4, a4, se4, kk4, σ4, H4, I4, m4, st4, o4, en4⟩ => ?_) fun e s4 ⟨_, a4, se4, kk4, q⟩ => hX _ _ _ _ _ se4 kk4 I3.bare q)
      · exact ht (x := .val d) o3 (st3.env o2 en2) rd htt fun σ' H' m' st' o' e' => ⟨m', st', o', e'⟩
      have I4' := inv_unsealed I4 se4 kk4 I3.bare
      have hg4 := hg3.kept su kg4 I4' st4
      have f4 := FinS.step st4 f3
      let NX : L2.St → Hp → Prop := fun σ' H' => ∃ m' S' ρ', Step H4 m4 H' m' ∧ Ok X.K cl B H' m' S' ∧ EnvOk X.K cl (NN B m') H' m' σ' ρ' ∧ FinS X.K cl B H' m' W (forL bd rest ρ' S') EE
      let D' : Ends := { nx := NX, rt := EE.rt, bk := EE.nx, ct := NX }
      refine wpAny_passesOwn hp (wpAny_mono (wpAny_keepG (hb.run (pins ++ O3) (sealAll s4) σ4 H4 D' (inv_sealed I4') ⟨B, m4, S4, ρ4, o4, en4, ?_⟩)) (fun fl s5 ⟨kg5, a5, se5, kk5, q5⟩ => ?_) fun e s5 ⟨_, a5, se5, kk5, q⟩ => hX _ _ _ _ _ se5 kk5 I4'.bare q)
      · cases hr' : b ρ4 S4 with
        | bad => rw [hr'] at f4; exact f4
        | exc e' ρ' S' => rw [hr'] at f4; exact f4
        | rt x S' => rw [hr'] at f4; exact f4
        | nx ρ' S' => rw [hr'] at f4; exact fun σ' H' m' s' o' e' => ⟨m', S', ρ', s', o', e', FinS.step s' f4⟩
        | ct ρ' S' => rw [hr'] at f4; exact fun σ' H' m' s' o' e' => ⟨m', S', ρ', s', o', e', FinS.step s' f4⟩
        | bk ρ' S' => rw [hr'] at f4; exact fun σ' H' m' s' o' e' => f4 σ' H' m' s' o' e'
      have again : ∀ {σ' : L2.St} {H' : Hp} {m' : List Addr} {S' : Store} {ρ' : Slots}, Inv X (pins ++ O3) σ' H' a5 → Step H4 m4 H' m' → Ok X.K cl B H' m' S' → EnvOk X.K cl (NN B m') H' m' σ' ρ' → FinS X.K cl B H' m' W (forL bd rest ρ' S') EE →
          ∃ k', k' < n' ∧ ∃ gs O J xs σ'' H'' m'' S'' ρ'', k' = xs.length ∧ Inv X pins σ'' H'' s5 ∧ Ok X.K cl B H'' m'' S'' ∧ EnvOk X.K cl (NN B m'') H'' m'' σ'' ρ'' ∧ HG X cl B pins H'' m'' C gs O J xs s5 ∧ FinS X.K cl B H'' m'' W (forL bd xs ρ'' S'') EE := fun {σ' H' m' S' ρ'} I5 st5 o5 e5 f5 => by
        have I5' := inv_unsealed I5 se5 kk5 I4'.bare
        exact ⟨rest.length, by rw [hn', List.length_cons]; omega, gs3, O3, J3, rest, σ', H', m', S', ρ', rfl, I5'.unpinned, o5, e5, hg4.kept su kg5 I5' st5, f5⟩
      cases fl with
      | next => obtain ⟨σ', H', I5, m', S', ρ', st5, o5, e5, f5⟩ := q5; exact again I5 st5 o5 e5 f5
      | cont => obtain ⟨σ', H', I5, m', S', ρ', st5, o5, e5, f5⟩ := q5; exact again I5 st5 o5 e5 f5
      | brk => obtain ⟨σ', H', I5, q⟩ := q5; exact ⟨σ', H', (inv_unsealed I5 se5 kk5 I4'.bare).unpinned, q⟩
      | ret v => obtain ⟨v', σ', H', I5, rv, q⟩ := q5; exact ⟨v', σ', H', (inv_unsealed I5 se5 kk5 I4'.bare).unpinned, rv, q⟩
end
end T3
namespace T3
open PySem PySem.Spec PyProof.Rows L2
section
variable {C : GF} {s0 : Shared} {H0 : Hp} {m : List Addr} {S : Store} {Ow : Nat → Prop} {pins : Pins} {I : IG} {F : List Addr → Hp → Prop} {ρ ρ' ρ1 : Slots} {s : Shared}
theorem xback_gf {s0 : Shared} {H0 : Hp} : XBack (C.X s0 H0) := fun _ _ _ _ _ _ _ _ h => h
/-- the numbers of an inner generator -/
structure Ix (C : GF) (Ow : Nat → Prop) (s0 : Shared) (I : IG) (i : Nat) : Prop where
  ne : i ≠ C.g
  ap : ∀ q ∈ I, q.1 ≠ i
  mine : Ow i ∨ ∀ x, s0.gens[i]? = some x → isSus x = false
theorem Rn.notown {Ci : GF} {J : IG} (r : Rn C s0 H0 m S Ow pins I F ρ s) (ix : ∀ i, T3.own Ci J i → Ix C Ow s0 I i) {i : Nat} {x : GenState} (h : ¬ Ow i) (e : s0.gens[i]? = some x) (hx : isSus x = true) : ¬ T3.own Ci J i := fun z => by
  rcases (ix i z).mine with q | q
  · exact h q
  · rw [q x e] at hx; cases hx
theorem sq_turnsG (h : C.Ok) {tg : Expr} {body : List Stmt} {g : TG} {t : CT} {Ci : GF} (hF : Mon C F) (hg : ∀ s H, PG (C.X s H) tg g) (ht : TgOk C.K C.cl g t) {c0 : Code} {p0 : Pos} {fs : List Frame} {gd : Bool → Bool} {k : Result → Sem PySem.Fin} {l kp : List Value} (gp : GP C c0 fs gd)
    (gn : ∃ go, (C.a, go) ∈ pins ∧ GenObj go C.g) (hL : C.L ≤ Ci.L) (hr : Room C.k (C.A.deeper C.env))
    {rem : List D} {ρ' : Slots} (hk : ∀ s0 H0 m S Ow s, Rn C s0 H0 m S Ow pins I F ρ' s → SegQ (model C.P C.w) C.A (Phi C s0 H0 m S Ow rem) c0 (k (.ok .next)) fs s) :
    ∀ {ys : List D} {ρ : Slots} {outs : List D}, Lp C t body ys ρ outs ρ' → ∀ gs O J s0 H0 m S Ow s, Rn C s0 H0 m S Ow pins I (fun m H => F m H ∧ HG (C.X s0 H0) C.cl C.B pins H m Ci gs O J ys s) ρ s → (∀ i, T3.own Ci J i → Ix C Ow s0 I i) →
      SegQ (model C.P C.w) C.A (Phi C s0 H0 m S Ow (outs ++ rem)) (.forLoop tg (.ref Ci.a) body [] C.env) ((model C.P C.w).den (.forLoop tg (.ref Ci.a) body [] C.env)) (.ret k none (gd false) l c0 p0 kp :: fs) s := by
  have gl : GP C (.forLoop tg (.ref Ci.a) body [] C.env) (.ret k none (gd false) l c0 p0 kp :: fs) id := gp_loop gp rfl rfl
  intro ys ρ outs lp
  induction lp with
  | @nil ρ =>
    intro gs O J s0 H0 m S Ow s r ix
    obtain ⟨σ, H, I0, en, o, st, f, hgi⟩ := r.ex
    refine sq_forLoop ?_
    rw [gl.over]
    refine wpAny_mono (pull (X := C.X s0 H0) hr I0 o hgi) (fun u s1 ⟨kb, hu, H1, I1, st1, o1⟩ => ?_) fun _ _ q => q
    subst hu
    have nc : ¬ T3.own Ci J C.g := fun z => (ix _ z).ne rfl
    refine sq_block_nil (hk _ _ _ _ _ _ ⟨⟨σ, H1, I1, st1.env o en, o1, st.trans st1, hF.step o st1 f⟩, kb _ _ nc r.run rfl, fun q hq => ⟨kb _ _ (fun z => (ix _ z).ap q hq rfl) (r.held q hq).1 (r.held q hq).2, (r.held q hq).2⟩, r.mine,
      fun i x e1 e2 e3 => kb _ _ (r.notown ix e1 e2 e3) (r.oth i x e1 e2 e3) e3, r.low, r.gen, r.sz⟩)
  | @cons d rest o1 o2 ρ ρ1 ρ2 ρ3 hd hb lp ih =>
    intro gs O J s0 H0 m S Ow s r ix
    obtain ⟨σ, H, I0, en, o, st, f, hgi⟩ := r.ex
    refine sq_forLoop ?_
    rw [gl.over]
    refine wpAny_mono (pull (X := C.X s0 H0) hr I0 o hgi) (fun u s1 ⟨kb, v, x, H1, gs1, O1, J1, hu, rx, rd, I1, st1, ok1, su, hg1, ix1⟩ => ?_) fun _ _ q => q
    subst hu
    have nc : ¬ T3.own Ci J C.g := fun z => (ix _ z).ne rfl
    have ig : s1.heap.IsGen Ci.a Ci.g := let ⟨go, h1, h2⟩ := hg1.gen; h2.is (hg1.pn (Ci.a, go) h1).2.1
    refine go_gen ig ?_
    have kheld : ∀ q ∈ I, s1.gens[q.1]? = some q.2 := fun q hq => kb _ _ (fun z => (ix _ z).ap q hq rfl) (r.held q hq).1 (r.held q hq).2
    have run1 := kb _ _ nc r.run rfl
    have idx : ∀ i, T3.own Ci J1 i → Ix C Ow s0 I i := fun i z => by
      rcases z with rfl | ⟨q, hq, rfl⟩
      · exact ix _ (.inl rfl)
      · rcases ix1 q hq with z | z
        · exact ix _ z
        · refine ⟨fun e => ?_, fun q2 hq2 e => ?_, ?_⟩
          · have := z _ (by rw [e]; exact r.run)
            cases this
          · have := z _ (by rw [← e]; exact (r.held q2 hq2).1)
            rw [(r.held q2 hq2).2] at this
            cases this
          · by_cases hO : Ow q.1
            · exact .inl hO
            · refine .inr fun y e => ?_
              cases hy : isSus y with
              | false => rfl
              | true =>
                have := z _ (r.oth _ y hO e hy)
                rw [hy] at this
                cases this
    have low1 : ∀ p ∈ O1, C.L ≤ p.1 := fun p hp => Nat.le_trans hL (hg1.pn p hp).1
    have r1 : Rn C s0 H0 m S Ow (pins ++ O1) ((Ci.g, gs1) :: (J1 ++ I)) (fun m H => (F m H ∧ Wk Ci rest gs1 O1 J1 H m) ∧ Rep C.K C.cl (NN C.B m) H x d) ρ s1 :=
      ⟨⟨σ, H1, hg1.pinned I1, st1.env o en, ok1, st.trans st1, ⟨hF.step o st1 f, hg1.wk⟩, rd⟩, run1, fun q hq => by
        rcases List.mem_cons.mp hq with rfl | hq
        · exact ⟨hg1.here, su⟩
        · rcases List.mem_append.mp hq with hq | hq
          · exact hg1.held q hq
          · exact ⟨kheld q hq, (r.held q hq).2⟩, fun q hq => by
        rcases List.mem_cons.mp hq with rfl | hq
        · exact ⟨(idx _ (.inl rfl)).ne, (idx _ (.inl rfl)).mine⟩
        · rcases List.mem_append.mp hq with hq | hq
          · exact ⟨(idx _ (.inr ⟨q, hq, rfl⟩)).ne, (idx _ (.inr ⟨q, hq, rfl⟩)).mine⟩
          · exact r.mine q hq,
        fun i x e1 e2 e3 => kb _ _ (r.notown ix e1 e2 e3) (r.oth i x e1 e2 e3) e3, fun p hp => by
        rcases List.mem_append.mp hp with hp | hp
        · exact r.low p hp
        · exact low1 p hp, let ⟨go, h1, h2⟩ := r.gen; ⟨go, List.mem_append_left _ h1, h2⟩, r.sz⟩
    have hF1 : Mon C fun m H => F m H ∧ Wk Ci rest gs1 O1 J1 H m := fun _ _ _ _ _ o st q => ⟨hF _ _ _ _ _ o st q.1, wk_mono q.2 st⟩
    refine wpAny_mono (rn_assign hF1 hg ht hd rx r1) (fun _ s3 r3 => ?_) fun _ _ q => q
    rw [List.append_assoc]
    refine hb _ _ _ _ id id gl (o2 ++ rem) (pins ++ O1) ((Ci.g, gs1) :: (J1 ++ I)) (fun m H => F m H ∧ Wk Ci rest gs1 O1 J1 H m) hF1 (fun s0' H0' m' S' Ow' s4 r4 => ?_) s0 H0 m S Ow s3 r3
    refine sq_again rfl ?_
    obtain ⟨σ4, H4, I4, en4, ok4, st4, f4, wk4⟩ := r4.ex
    have idx4 : ∀ i, T3.own Ci J1 i → Ix C Ow' s0' I i := fun i z => by
      have hm : ∃ q ∈ (Ci.g, gs1) :: (J1 ++ I), q.1 = i := by
        rcases z with rfl | ⟨q, hq, rfl⟩
        · exact ⟨_, List.mem_cons_self, rfl⟩
        · exact ⟨q, List.mem_cons_of_mem _ (List.mem_append_left _ hq), rfl⟩
      obtain ⟨q, hq, rfl⟩ := hm
      exact ⟨(r4.mine q hq).1, (idx _ z).ap, (r4.mine q hq).2⟩
    refine ih hk gs1 O1 J1 s0' H0' m' S' Ow' s4 ⟨⟨σ4, H4, I4.unpinned, en4, ok4, st4, f4, ⟨hg1.eqs, hg1.ok, ⟨Nat.le_trans trunc_size hL, hg1.lo.loc, hg1.lo.cell, hg1.lo.pin, hg1.lo.fr⟩, (r4.held _ List.mem_cons_self).1, fun p hp => ?_, hg1.gen,
      fun q hq => r4.held q (List.mem_cons_of_mem _ (List.mem_append_left _ hq)), hg1.ne, wk4⟩⟩, r4.run, fun q hq => r4.held q (List.mem_cons_of_mem _ (List.mem_append_right _ hq)), fun q hq => r4.mine q (List.mem_cons_of_mem _ (List.mem_append_right _ hq)), r4.oth,
      fun p hp => r4.low p (List.mem_append_left _ hp), gn, r4.sz⟩ idx4
    obtain ⟨q1, q2, _⟩ := I4.pin p (List.mem_append_right _ (List.mem_append_right _ hp))
    exact ⟨(hg1.pn p hp).1, q1, q2, (hg1.pn p hp).2.2.2⟩
theorem gj_forG (h : C.Ok) {k n : Nat} {nm : Str} {gf : List D → Option (List D)} {tg e : Expr} {es : List Expr} {body : List Stmt} {c : CA} {g : TG} {t : CT} {p pos pos2 : Pos} {ds ys outs : List D} (G : GDef C.P C.w C.K C.mg C.base C.cl k nm n gf) (hk : k ≤ C.k)
    (hgl : ∀ s H, Gl (C.X s H) nm) (ha : ∀ s H, PA (C.X s H) (e :: es) (tML C.K C.cl W0 c)) (hd : ∀ S, c ρ S = .ok (ds.map A.val) S) (hn : ds.length = n) (hgf : gf ds = some ys) (hg : ∀ s H, PG (C.X s H) tg g) (ht : TgOk C.K C.cl g t) (lp : Lp C t body ys ρ outs ρ')
    (hdb : (nm == ("__debug__" : Str)) = false := by decide) (he : starEach (e :: es) C.env = (false, eval e C.env) :: starEach es C.env := by rfl) (hpl : (backTo pos2 (starEach es C.env)).any (·.1) = false := by rfl)
    (hs : ∀ x, foldedSetIterable (.Call (.Name nm p) (e :: es) [] pos2) C.env x = pure x := by intro _; rfl) :
    GJ C (exec (.For tg (.Call (.Name nm p) (e :: es) [] pos2) body [] pos) C.env) ρ outs ρ' := fun c1 fs K J gd lv gp rem pins I F hF hkk s0 H0 m S Ow s r => by
  obtain ⟨σ, H, I0, en, o, st, f⟩ := r.ex
  refine sq_For hs ?_
  rw [gp.over]
  refine wpAny_mono (made_gen (X := C.X s0 H0) xback_gf G h.room hk h.guards (hgl s0 H0) (ha s0 H0) hdb he hpl (hd S) hn hgf I0 o en) (fun u s1 ⟨kg, Ci, cc, O, H1, m1, eu, I1, st1, o1, hg1, fr⟩ => ?_) fun _ _ q => q.elim
  have := same_m o st1 o1
  subst this
  subst eu
  have ig : s1.heap.IsGen Ci.a Ci.g := let ⟨go, h1, h2⟩ := hg1.gen; h2.is (hg1.pn (Ci.a, go) h1).2.1
  refine wpAny_pyIter_gen ig fun p1 => ?_
  refine sq_turnsG h hF hg ht gp r.gen (Nat.le_of_lt hg1.lo.loc) h.room (fun s0 H0 m S Ow s r4 => hkk s0 H0 m S Ow s r4) lp (.fresh cc) O [] s0 H0 _ S Ow s1
    ⟨⟨σ, H1, I1, st1.env o en, o1, st.trans st1, hF.step o st1 f, hg1⟩, kg _ _ r.run rfl, fun q hq => ⟨kg _ _ (r.held q hq).1 (r.held q hq).2, (r.held q hq).2⟩, r.mine, fun i x e1 e2 e3 => kg _ _ (r.oth i x e1 e2 e3) e3, r.low, r.gen, r.sz⟩ fun i z => ?_
  rcases z with rfl | ⟨q, hq, _⟩
  · refine ⟨fun e => ?_, fun q hq e => ?_, ?_⟩
    · have := fr _ (by rw [e]; exact r.run)
      cases this
    · have := fr _ (by rw [← e]; exact (r.held q hq).1)
      rw [(r.held q hq).2] at this
      cases this
    · by_cases hO : Ow Ci.g
      · exact .inl hO
      · refine .inr fun y e => ?_
        cases hy : isSus y with
        | false => rfl
        | true =>
          have := fr _ (r.oth _ y hO e hy)
          rw [hy] at this
          cases this
  · simp at hq
end
end T3
namespace T3
open PySem PySem.Spec PyProof.Rows L2
/-- what leaves a def's frame does not hang on the sealed generators -/
theorem xback_cx {P : Program} {w : World} {K : PySem.W.Frag} {mg : Str → Option Value} {base : Heap} {N : List Str} {qual : Str} {scope : Scope} {f : Addr} {cd : Value} {A : Around} {outer : List Env} {s : Shared} {H : Hp} {E : XK} : XBack (cxOf (L2.CX P w) P w K mg base N qual scope f cd A outer s H E) := by
  intro G a b b' e se k hb h
  have tr : ∀ {a' b1 : Shared} {u : Value}, Seal G a' b1 → (∀ i, G i → b1.gens[i]? = b'.gens[i]?) → L2.CX P w outer H s E u a' → L2.CX P w outer H s E u b1 := by
    rintro a' b1 u se1 k1 ⟨x, Bh, H', cls, d, rfl, fl, hok, ub, na, os, ag, hE⟩
    refine ⟨x, Bh, H', cls, d, rfl, by rw [se1.heap]; exact fl, hok, by rw [se1.heap]; exact ub, na, by rw [se1.os]; exact os, ?_, hE⟩
    exact back_bare se1 (fun i hi => (k1 i hi).trans (k i hi)) ag hb
  have h : wpAny (model P w) (A.deeper (envOfC qual scope s.heap.objs.size f cd)) (leaving (envOfC qual scope s.heap.objs.size f cd) e) (fun _ s'' => L2.CX P w outer H s E e s'') (fun e' s'' => L2.CX P w outer H s E e' s'') a := h
  exact wpAny_mono (wpAny_seal se h) (fun _ b1 ⟨a', se1, k1, q⟩ => tr se1 k1 q) fun _ b1 ⟨a', se1, k1, q⟩ => tr se1 k1 q
theorem tg_nm {K : PySem.W.Frag} {cl : ClT} (i : Nat) : TgOk K cl (gName i) (tgName i) := by
  intro B H m S S' v x σ ρ ρ' Q o e r h k
  cases h
  exact k _ H m Step.refl o (e.set i r)
theorem noc_of {l : List (Str × NameKind)} (h : l.all (fun y => y.2 != .cell && y.2 != .free) = true) (x : Str) : l.lookup x ≠ some .cell ∧ l.lookup x ≠ some .free := by
  have key : ∀ k, l.lookup x = some k → (k != .cell && k != .free) = true := fun k e => List.all_eq_true.mp h (x, k) (PySem.mem_of_lookup e)
  constructor
  · intro e
    have := key _ e
    simp at this
  · intro e
    have := key _ e
    simp at this
/-! ### all rows -/
noncomputable def rowsL : List D → Nat → List (List D)
  | _, 0 => [[]]
  | xs, n + 1 => xs.flatMap fun x => (rowsL xs n).map (x :: ·)
noncomputable def gfRows (b : Nat) : List D → Option (List D)
  | [.lst xs, .int n] => if 0 ≤ n ∧ n ≤ b ∧ n ≤ 1000 then some ((rowsL xs n.toNat).map D.tup) else none
  | _ => none
section
variable {C : GF}
/-- the turns of a loop whose body keeps the two first slots -/
theorem lp_of {p q : Option A} {j : Nat} {body : List Stmt} {outs : D → List D} (hj : j = 2 ∨ j = 3) : ∀ {ys : List D}, (∀ d ∈ ys, ∀ x y, ∃ x' y', GJ C (execs body C.env) ([p, q, x, y].set j (some (.val d))) (outs d) [p, q, x', y']) → ∀ x y, ∃ x' y', Lp C (tgName j) body ys [p, q, x, y] (ys.flatMap outs) [p, q, x', y'] := by
  intro ys
  induction ys with
  | nil => exact fun _ x y => ⟨x, y, .nil⟩
  | cons d r ih =>
    intro h x y
    obtain ⟨x1, y1, g1⟩ := h d List.mem_cons_self x y
    obtain ⟨x2, y2, l2⟩ := ih (fun d hd => h d (List.mem_cons_of_mem _ hd)) x1 y1
    exact ⟨x2, y2, .cons (fun S => rfl) g1 l2⟩
theorem rowsL_len {xs : List D} : ∀ {n : Nat}, ∀ r ∈ rowsL xs n, r.length = n
  | 0, r, h => by
    have : r = [] := by simpa [rowsL] using h
    rw [this]; rfl
  | n + 1, r, h => by
    simp only [rowsL, List.mem_flatMap, List.mem_map] at h
    obtain ⟨x, _, q, hq, rfl⟩ := h
    rw [List.length_cons, rowsL_len q hq]
theorem tup_star {x : D} {r : List D} {p q : Option A} (h : r.length ≤ 1000) (S : Store) : cTup (cCons (cV 2) (cStar (cV 3) cNil)) [p, q, some (.val x), some (.val (.tup r))] S = .ok (.val (.tup (x :: r))) S := by
  have hv : valsOf (.val x :: (r.map A.val ++ [])) = some (x :: r) := by
    rw [List.append_nil]
    have : ∀ l : List D, valsOf (l.map A.val) = some l := fun l => by
      induction l with
      | nil => rfl
      | cons d l ih => rw [List.map_cons]; simp only [valsOf, ih, Option.map_some]
    exact this (x :: r)
  have hz : szOk (x :: r).length = true := decide_eq_true (by rw [List.length_cons]; omega)
  rw [ap_Tup, ap_Cons, ap_V]
  simp only [List.getElem?_cons_succ, List.getElem?_cons_zero, ap_Star, ap_V, ap_Nil, hv, hz, if_true]
/-- the text of all_rows -/
structure RowsText (C : GF) (nm : Str) (st : Stmt) : Prop where
  ex : ∃ e1 e2 e3 tg1 it1 tg2 a1 a2 p p1 p2 p3 p4 p5 p6 p7 p8,
    defBody st = [.If e1 [.Expr (.Yield (some e2) p1) p2] [.For tg1 it1 [.For tg2 (.Call (.Name nm p) [a1, a2] [] p3) [.Expr (.Yield (some e3) p4) p5] [] p6] [] p7] p8] ∧ interactive C.env = false ∧
    (∀ s H, PT (C.X s H) e1 (tMT C.K C.cl W0 (cBin fEq (cV 1) (cI 0)))) ∧ (∀ s H, PE (C.X s H) e2 (tM C.K C.cl W0 (cTup cNil))) ∧ (∀ s H, PI (C.X s H) tg1 it1 (tMI C.K C.cl W0 (ciV (cV 0)))) ∧ (∀ s H, PG (C.X s H) tg1 (gName 2)) ∧
    (∀ x, foldedSetIterable it1 C.env x = pure x) ∧ (∀ s H, Gl (C.X s H) nm) ∧ (∀ s H, PA (C.X s H) [a1, a2] (tML C.K C.cl W0 (cCons (cV 0) (cCons (cBin fSub (cV 1) (cI 1)) cNil)))) ∧ (∀ s H, PG (C.X s H) tg2 (gName 3)) ∧
    (nm == ("__debug__" : Str)) = false ∧ (starEach [a1, a2] C.env = (false, eval a1 C.env) :: starEach [a2] C.env) ∧ ((backTo p3 (starEach [a2] C.env)).any (·.1) = false) ∧ (∀ x, foldedSetIterable (.Call (.Name nm p) [a1, a2] [] p3) C.env x = pure x) ∧
    (∀ s H, PE (C.X s H) e3 (tM C.K C.cl W0 (cTup (cCons (cV 2) (cStar (cV 3) cNil)))))
theorem gj_rows (h : C.Ok) {nm : Str} {st : Stmt} (T : RowsText C nm st) {xs : List D} {n : Nat} (hn : n ≤ 1000) (inner : ∀ k, n = k + 1 → ∃ j, j ≤ C.k ∧ GDef C.P C.w C.K C.mg C.base C.cl j nm 2 (gfRows k)) :
    ∃ ρ', GJ C (execs (defBody st) C.env) [some (.val (.lst xs)), some (.val (.int n)), none, none] ((rowsL xs n).map D.tup) ρ' := by
  obtain ⟨e1, e2, e3, tg1, it1, tg2, a1, a2, p, p1, p2, p3, p4, p5, p6, p7, p8, eb, hint, h1, h2, hi, hg1, hf1, hgl, ha, hg2, hdb, he, hpl, hf2, h3⟩ := T.ex
  rw [eb]
  cases n with
  | zero => exact ⟨_, gj_one (gj_if (b := true) h1 (fun S => rfl) (gj_one (gj_yield h h2 (fun S => rfl) hint)))⟩
  | succ k =>
    obtain ⟨j, hj, G⟩ := inner k rfl
    have hk : k ≤ 1000 := by omega
    have e : ((k + 1 : Nat) : Int) - 1 = (k : Nat) := by omega
    have hin : ∀ d ∈ xs, ∀ x y, ∃ x' y', GJ C (execs [.For tg2 (.Call (.Name nm p) [a1, a2] [] p3) [.Expr (.Yield (some e3) p4) p5] [] p6] C.env) ([some (.val (.lst xs)), some (.val (.int (k + 1 : Nat))), x, y].set 2 (some (.val d)))
        ((rowsL xs k).map fun r => D.tup (d :: r)) [some (.val (.lst xs)), some (.val (.int (k + 1 : Nat))), x', y'] := by
      intro d hd x y
      have lp : ∀ (l : List (List D)), (∀ r ∈ l, r.length ≤ 1000) → ∀ y, ∃ y', Lp C (tgName 3) [.Expr (.Yield (some e3) p4) p5] (l.map D.tup) [some (.val (.lst xs)), some (.val (.int (k + 1 : Nat))), some (.val d), y] (l.map fun r => D.tup (d :: r)) [some (.val (.lst xs)), some (.val (.int (k + 1 : Nat))), some (.val d), y'] := by
        intro l
        induction l with
        | nil => exact fun _ y => ⟨y, .nil⟩
        | cons r l ih =>
          intro hl y
          obtain ⟨y', q⟩ := ih (fun r hr => hl r (List.mem_cons_of_mem _ hr)) (some (.val (.tup r)))
          exact ⟨y', .cons (o1 := [.tup (d :: r)]) (fun S => rfl) (gj_one (gj_yield h h3 (fun S => tup_star (hl r List.mem_cons_self) S) hint)) q⟩
      obtain ⟨y', q⟩ := lp (rowsL xs k) (fun r hr => by rw [rowsL_len r hr]; omega) y
      refine ⟨_, y', gj_one (gj_forG h (ds := [.lst xs, .int (k : Nat)]) (ys := (rowsL xs k).map D.tup) G hj hgl ha (fun S => ?_) rfl ?_ hg2 (tg_nm 3) q hdb he hpl hf2)⟩
      · show LRes.ok [.val (.lst xs), .val (.int (((k + 1 : Nat) : Int) - 1))] S = _
        rw [e]
        rfl
      · simp only [gfRows]
        rw [if_pos ⟨by omega, by omega, by omega⟩]
        simp
    obtain ⟨x', y', q⟩ := lp_of (C := C) (body := [.For tg2 (.Call (.Name nm p) [a1, a2] [] p3) [.Expr (.Yield (some e3) p4) p5] [] p6]) (j := 2) (.inl rfl) hin none none
    have e2 : (rowsL xs (k + 1)).map D.tup = xs.flatMap fun d => (rowsL xs k).map fun r => D.tup (d :: r) := by
      simp only [rowsL, List.map_flatMap, List.map_map]
      rfl
    rw [e2]
    refine ⟨_, gj_one (gj_if (b := false) h1 (fun S => ?_) (gj_one (gj_for h hi (fun S => rfl) hg1 (tg_nm 2) q hf1)))⟩
    show Res.ok (.val (.bl (((k + 1 : Nat) : Int) == 0))) S = _
    have : (((k + 1 : Nat) : Int) == 0) = false := by
      rw [beq_eq_false_iff_ne]; omega
    rw [this]
end
theorem gd_rows {P : Program} {w : World} {K : PySem.W.Frag} {mg : Str → Option Value} {base : Heap} {cl : ClT} {nm : Str} {st : Stmt} {fa : Addr} {fd : FuncData} {N ps : List Str} (hm : mg nm = some (.ref fa)) (hb : Binds K fd ps []) (hn : ps.length = 2) (hN : N.length = 4) (F : Fun K nm nm st fa fd)
    (kind : (defScope st).kind = .function) (co : (defScope st).isCoroutine = false) (gen : (defScope st).isGenerator = true) (nd : N.Nodup) (pre : N.take ps.length = ps) (loc : ∀ x ∈ N, (defScope st).names.lookup x = some .local) (noc : ∀ x, (defScope st).names.lookup x ≠ some .cell ∧ (defScope st).names.lookup x ≠ some .free)
    (cells : ∀ n, cellsFrom n (defScope st).names [] = []) (T : ∀ (C : GF), C.P = P → C.w = w → C.K = K → C.mg = mg → C.base = base → C.cl = cl → C.N = N → C.sc = defScope st → C.Ok → RowsText C nm st) : ∀ b : Nat, GDef P w K mg base cl (2 * b + 2) nm 2 (gfRows b) := by
  intro b
  induction b with
  | zero =>
    refine gen_of hm hb hn F kind co gen nd pre loc noc cells fun C h1 h2 h3 h4 h5 h6 h7 h8 h9 ok ds xs hl hg => ?_
    unfold gfRows at hg
    split at hg
    · split at hg
      · rename_i ys n hc
        cases hg
        have hz : n = ((0 : Nat) : Int) := by omega
        subst hz
        rw [hN]
        exact gj_rows ok (T C h1 h2 h3 h4 h5 h6 h7 h8 ok) (n := 0) (by omega) fun k hk => by omega
      · cases hg
    · cases hg
  | succ b ih =>
    have e : 2 * (b + 1) + 2 = (2 * b + 2) + 2 := by omega
    rw [e]
    refine gen_of hm hb hn F kind co gen nd pre loc noc cells fun C h1 h2 h3 h4 h5 h6 h7 h8 h9 ok ds xs hl hg => ?_
    unfold gfRows at hg
    split at hg
    · split at hg
      · rename_i ys n hc
        cases hg
        obtain ⟨n, rfl⟩ : ∃ k : Nat, n = (k : Int) := ⟨n.toNat, by omega⟩
        rw [hN, Int.toNat_natCast]
        refine gj_rows ok (T C h1 h2 h3 h4 h5 h6 h7 h8 ok) (n := n) (by omega) fun k hk => ⟨2 * b + 2, Nat.le_of_eq h9.symm, ?_⟩
        subst h1 h2 h3 h4 h5 h6
        refine ⟨let ⟨fa, fd, ps, q1, q2, q3, q4, q5⟩ := ih.ex; ⟨fa, fd, ps, q1, q2, q3, q4, fun {A outer s H B m S us vs ds xs} a1 a2 a3 a4 a5 a6 a7 a8 a9 => q5 a1 a2 a3 a4 a5 a6 a7 ?_ a9⟩⟩
        unfold gfRows at a8 ⊢
        split at a8
        · split at a8
          · rename_i z
            rw [if_pos ⟨by omega, by omega, by omega⟩]
            exact a8
          · cases a8
        · cases a8
      · cases hg
    · cases hg
end T3
/-! list(text), list(dict), tuple(dict) -/
namespace T3
open PySem PySem.Spec PyProof.Rows L2
section
variable {X : Cx} {cl : ClT} {W : WX}
noncomputable def rListT : List V → Hp → VK → Prop := fun xs H Q => ∃ z : Str, xs = [.str z] ∧ z.cps.size ≤ sizeLine ∧ ∀ l, H l = none → Q (.ref l) (upd H l (.lst (z.cps.toList.map fun c => .str ⟨#[c]⟩)))
theorem call_list_txt (hc : X.calm = true) : CallR X (.type "list") rListT := by
  rintro pins s σ H xs us Q I r ⟨z, rfl, hz, q⟩
  match r with
  | .cons ru .nil =>
  obtain ⟨t, rfl⟩ := ru
  refine call_list_str (I.ok.hd hc) z t (fun h' tk acc' c' hk hS hacc => ?_) hz
  refine ⟨.ref s.heap.objs.size, _, I.laid hk (Nat.le_refl _) (show ObjOk X.prog X.w (upd H s.heap.objs.size (.lst (z.cps.toList.map fun c => .str ⟨#[c]⟩))) h' s.heap.objs.size (.lst (z.cps.toList.map fun c => .str ⟨#[c]⟩)) from ⟨?_, acc'.toList, c', ?_, ?_⟩), rfl, q _ (I.hok.fresh (Nat.le_refl _))⟩
  · simpa using hz
  · refine vals_of_at (by simp [hacc.1]) fun j x w h1 h2 => ?_
    obtain ⟨c, u, hcu, rfl⟩ := hacc.2 j w (by rw [← Array.getElem?_toList]; exact h2)
    rw [List.getElem?_map, Array.getElem?_toList, hcu] at h1
    cases h1
    exact ⟨u, rfl⟩
  · rw [Array.toArray_toList]; exact hS
theorem CallR.or {f : Value} {r r' : List V → Hp → VK → Prop} (h : CallR X f r) (h' : CallR X f r') : CallR X f (fun xs H Q => r xs H Q ∨ r' xs H Q) := fun pins s σ H xs us Q I q hr => hr.elim (h pins s σ H xs us Q I q) (h' pins s σ H xs us Q I q)
noncomputable def keyD : Key → D
  | .inl i => .int i
  | .inr x => .str x
/-- list(..) of a list, a tuple, a text, a dict -/
noncomputable def fList2 (fr : Bool) : List A → Store → Res
  | [.val (.str s)], S => if szOk s.length then mkL fr (signsD s) S else .bad
  | [.val (.dic ks ds)], S => mkL fr (ks.map keyD) S
  | [.ref i], S => (match S[i]? with
    | some (.dic ks ds) => mkL fr (ks.map keyD) S
    | some (.lst ds) => mkL fr ds S
    | _ => .bad)
  | xs, S => fList fr xs S
theorem rep_keys {K : PySem.W.Frag} {N : Addr → Prop} {H : Hp} : ∀ {ks : List Key} {xs : List V}, ks.length = xs.length → RepL K cl N H ((ks.zip xs).map fun kv => kV kv.1) (ks.map keyD)
  | [], [], _ => .nil
  | k :: ks, x :: xs, h => .cons (by cases k <;> first | exact .int _ | exact .str _) (rep_keys (by simpa using h))
theorem rep_signs {K : PySem.W.Frag} {N : Addr → Prop} {H : Hp} (s : Str) : RepL K cl N H (s.cps.toList.map fun c => V.str ⟨#[c]⟩) (signsD s) := by
  unfold signsD
  generalize s.cps.toList = l
  induction l with
  | nil => exact .nil
  | cons x r ih => exact .cons (.str _) ih
theorem ok_list2 (fr : Bool) : CaOk X.K cl (fun xs H Q => (∃ p ys, xs = [.ref p] ∧ (SqL X.K H p ys ∨ SqT X.K H p ys) ∧ ∀ l, H l = none → Q (.ref l) (upd H l (.lst ys))) ∨ rListT xs H Q ∨ rListD xs H Q) (fList2 fr) := by
  intro B H m S σ W vs xs Q o r h
  unfold fList2 at h
  split at h
  · rename_i s
    obtain ⟨v, rfl, r1⟩ := one_arg r
    cases r1
    split at h
    · rename_i hz
      exact .inr (.inl ⟨s, rfl, szOk_line hz, fun l hl => mkL_ok o (rep_signs s) hl h⟩)
    · exact h.elim
  · rename_i ks ds
    obtain ⟨v, rfl, r1⟩ := one_arg r
    cases r1 with
    | dic e n l rl => exact .inr (.inr ⟨_, _, rfl, e, fun q hq => mkL_ok o (rep_keys l) hq h⟩)
  · rename_i i
    obtain ⟨v, rfl, r1⟩ := one_arg r
    split at h
    · rename_i ks ds hi
      obtain ⟨a, ha, rfl⟩ := r1
      obtain ⟨xs, e, l, rl⟩ := o.obj i a _ ha hi
      exact .inr (.inr ⟨_, _, rfl, e, fun q hq => mkL_ok o (rep_keys l) hq h⟩)
    · rename_i ds hi
      refine .inl (ok_list (X := X) (cl := cl) (σ := σ) (W := W) fr o r ?_)
      unfold fList
      simp only [asL, hi]
      exact h
    · exact h.elim
  · exact .inl (ok_list (X := X) (cl := cl) (σ := σ) (W := W) fr o r h)
end
section
variable {S : Store} {fr : Bool} {i : Nat} {ds : List D} {ks : List Key} {s : Str}
@[simp] theorem list2_str : fList2 fr [.val (.str s)] S = if szOk s.length then mkL fr (signsD s) S else .bad := rfl
@[simp] theorem list2_dic : fList2 fr [.val (.dic ks ds)] S = mkL fr (ks.map keyD) S := rfl
@[simp] theorem list2_lst : fList2 fr [.val (.lst ds)] S = mkL fr ds S := rfl
@[simp] theorem list2_ro : fList2 fr [.val (.ro ds)] S = mkL fr ds S := rfl
@[simp] theorem list2_tup : fList2 fr [.val (.tup ds)] S = mkL fr ds S := rfl
@[simp] theorem list2_ref : fList2 fr [.ref i] S = (match S[i]? with | some (.dic ks ds) => mkL fr (ks.map keyD) S | some (.lst ds) => mkL fr ds S | _ => .bad) := rfl
end
end T3
/-! t[::-1] of a tuple; sorted(..) of data -/
namespace T3
open PySem PySem.Spec PyProof.Rows L2
section
variable {prog : Program} {w : World} {A : Around} {E : Value → Shared → Prop} {s : Shared}
theorem adjust_rev (n : Nat) : Builtin.Slice.sliceAdjust none none (-1) (n : Int) = ((n : Int) - 1, -1) := by
  unfold Builtin.Slice.sliceAdjust
  rfl
theorem places_rev (n : Nat) : Builtin.Slice.slicePlaces ((n : Int) - 1) (-1) (-1) = n := by
  unfold Builtin.Slice.slicePlaces
  rw [if_neg (by decide)]
  by_cases h : (n : Int) - 1 > -1
  · rw [if_pos h, show (- -1 : Int) = 1 by decide, Int.ediv_one]; omega
  · rw [if_neg h]; omega
theorem applied_rev {sl : Addr} {vs : Value} {n : Nat} {Q : Int × Int × Nat → Shared → Prop} (hs : s.heap.IsSliceOf sl .none .none vs) (ps : IsPart vs (some (-1))) (h : Q ((n : Int) - 1, -1, n) s) :
    wpAny (model prog w) A (Builtin.Slice.sliceApplied (.ref sl) (pure (n : Int))) Q E s := by
  obtain ⟨ob, e1, e2, e3⟩ := id hs
  unfold Builtin.Slice.sliceApplied Builtin.Slice.sliceFields
  refine wpAny_bind (wpAny_bind (wpAny_field e1 e3 (x := .none) rfl ?_))
  refine wpAny_bind (wpAny_field e1 e3 (x := .none) rfl (wpAny_bind (wpAny_field e1 e3 (x := vs) rfl (wpAny_pure ?_))))
  refine wpAny_bind (HT.slicePart_ ps ?_)
  show wpAny _ _ (if ((-1 : Int) == 0) = true then _ else _) _ _ s
  rw [if_neg (by decide)]
  refine wpAny_bind (slicePart_none (wpAny_bind (slicePart_none (wpAny_bind (wpAny_pure ?_)))))
  show wpAny _ _ (match Builtin.Slice.sliceAdjust none none (-1) (n : Int) with | (lo, hi) => pure (lo, (-1 : Int), Builtin.Slice.slicePlaces lo hi (-1))) _ _ s
  rw [adjust_rev]
  show wpAny _ _ (pure ((n : Int) - 1, (-1 : Int), Builtin.Slice.slicePlaces ((n : Int) - 1) (-1) (-1))) _ _ s
  rw [places_rev]
  exact wpAny_pure h
theorem fm_congr {α β : Type} {f g : α → Option β} : ∀ {l : List α}, (∀ x ∈ l, f x = g x) → l.filterMap f = l.filterMap g
  | [], _ => rfl
  | x :: r, h => by
    rw [List.filterMap_cons, List.filterMap_cons, h x List.mem_cons_self, fm_congr fun y hy => h y (List.mem_cons_of_mem _ hy)]
theorem pick_rev (xs : Array Value) : ((List.range xs.size).filterMap fun (m : Nat) => xs[(((xs.size : Int) - 1) + (m : Int) * (-1)).toNat]?).toArray = xs.toList.reverse.toArray := by
  congr 1
  have e : ∀ m ∈ List.range xs.size, xs[(((xs.size : Int) - 1) + (m : Int) * (-1)).toNat]? = xs.toList.reverse[m]? := fun m hm => by
    have hm := List.mem_range.mp hm
    have e1 : (((xs.size : Int) - 1) + (m : Int) * (-1)).toNat = xs.size - 1 - m := by omega
    rw [e1, List.getElem?_reverse (by simpa using hm), Array.length_toList, Array.getElem?_toList]
  have e2 : (List.range xs.size).filterMap (fun (m : Nat) => xs[(((xs.size : Int) - 1) + (m : Int) * (-1)).toNat]?) = (List.range xs.size).filterMap (fun m => xs.toList.reverse[m]?) := fm_congr e
  rw [e2]
  have key : ∀ l : List Value, (List.range l.length).filterMap (fun m => l[m]?) = l := by
    intro l
    have h1 : (List.range l.length).filterMap (fun m => l[m]?) = ((List.range l.length).map fun m => l[m]?).filterMap id := by
      rw [List.filterMap_map]; rfl
    have h2 : (List.range l.length).map (fun m => l[m]?) = l.map some := by
      refine List.ext_getElem (by simp) fun i h1 h2 => ?_
      have : i < l.length := by simpa using h2
      simp [List.getElem?_eq_getElem this]
    rw [h1, h2, List.filterMap_map]
    simp
  have := key xs.toList.reverse
  rwa [List.length_reverse, Array.length_toList] at this
theorem getItem_tup_rev {t sl : Addr} {items : Array Value} {vs : Value} {Q : Value → Shared → Prop} (ht : IsTup s.heap t items) (hs : s.heap.IsSliceOf sl .none .none vs) (ps : IsPart vs (some (-1)))
    (h : Q (.ref s.heap.objs.size) { s with heap := s.heap.push { cls := .type "tuple", data := .seq items.toList.reverse.toArray } }) (hsz : items.size ≤ sizeLine) : wpAny (model prog w) A (getItem (.ref t) (.ref sl)) Q E s := by
  have hok : sizeOk (.seq items.toList.reverse.toArray) := by
    show items.toList.reverse.toArray.size ≤ sizeLine
    simpa using hsz
  obtain ⟨ob, e1, e2, e3⟩ := id hs
  have hT : s.TypeIs (.ref sl) "slice" := ⟨ob, e1, e2⟩
  unfold getItem
  try with_reducible refine wpAny_holding ?_
  first
    | refine wpAny_bind (wpAny_pure ?_)
    | skip
  refine wpAny_bind (wpAny_sequenceKey ht.typeIs (by decide) ?_)
  refine wpAny_bind (wpAny_callSpecial?_slot (name := Str.ofString "__getitem__") ht.typeIs PyProof.Rows.slot_tuple_getitem ?_)
  refine wpAny_call_entry PyProof.Rows.slot_tuple_getitem ht.typeIs entry_tuple_getitem ?_ (args_tuple_getitem _ _)
  show wpAny _ _ (Builtin.Tuple.tupleItemsOf (.ref t) >>= _) _ _ s
  refine wpAny_bind (tupleItemsOf_ ht (wpAny_bind (wpAny_typeOf hT ?_)))
  rw [if_pos (by decide)]
  refine wpAny_bind (applied_rev hs ps ?_)
  have hno : ¬ ((((items.size : Int) - 1) == 0 && (-1 : Int) == 1 && items.size == items.size) = true) := by simp
  show wpAny _ _ (if (((items.size : Int) - 1) == 0 && (-1 : Int) == 1 && items.size == items.size) = true then _ else _) _ _ s
  rw [if_neg hno, pick_rev]
  have fin : ∀ {M : Model} {A' : Around} {E' : Value → Shared → Prop} {Q' : Value → Shared → Prop}, Q' (.ref s.heap.objs.size) { s with heap := s.heap.push { cls := .type "tuple", data := .seq items.toList.reverse.toArray } } → wpAny M A' (Builtin.Tuple.tupleExact items.toList.reverse.toArray) Q' E' s := fun q => wpAny_newObj_type q hok
  first
    | exact wpAny_bind (fin (wpAny_pure ⟨_, rfl, wpAny_pure h⟩))
    | exact wpAny_bind (fin (wpAny_bind (wpAny_pure (wpAny_pure ⟨_, rfl, wpAny_pure h⟩))))
    | exact wpAny_bind (wpAny_bind (fin (wpAny_pure (wpAny_pure ⟨_, rfl, wpAny_pure h⟩))))
    | exact wpAny_bind (wpAny_bind (fin (wpAny_pure ⟨_, rfl, wpAny_pure h⟩)))
end
section
variable {X : Cx}
noncomputable def tRevT (K : PySem.W.Frag) (te : TE) : TE := fun σ H Q => te σ H fun x H1 => ∃ a xs, x = .ref a ∧ SqT K H1 a xs ∧ NewT xs.reverse H1 Q
theorem pe_revT {e : Expr} {te : TE} {k : Nat} {p1 p2 p3 pos : Pos} (he : PE X e te) : PE X (.Subscript e (.Slice none none (some (.UnaryOp .USub (.Constant (.int 1) k p1) p2)) p3) pos) (tRevT X.K te) := by
  refine ⟨fun pins s σ H Q I h => Subscript_ (thn (he.run pins s σ H _ I h) fun v s1 hh => ?_)⟩
  obtain ⟨x, H1, I1, r1, a, xs, rfl, hx, q⟩ := hh
  cases r1
  have neg : PO X (some (.UnaryOp .USub (.Constant (.int 1) k p1) p2)) (tPart (tUn (rU fun i => .int (-i)) (tC (.int 1)))) := po_some (pe_un un_neg pe_int)
  refine wpAny_Slice (thn (po_none.run pins s1 σ H1 (fun o H2 => o = none ∧ H2 = H1) I1 ⟨rfl, rfl⟩) fun vl s2 h2 => ?_)
  obtain ⟨l, H2, I2, pl, rfl, rfl⟩ := h2
  refine thn (po_none.run pins s2 σ H2 (fun o H3 => o = none ∧ H3 = H2) I2 ⟨rfl, rfl⟩) fun vu s3 h3 => ?_
  obtain ⟨u, H3, I3, pu, rfl, rfl⟩ := h3
  refine thn (neg.run pins s3 σ H3 (fun o H4 => o = some (-1) ∧ H4 = H3) I3 ⟨1, rfl, -1, rfl, rfl, rfl⟩) fun vs s4 h4 => ?_
  obtain ⟨o, H4, I4, ps, rfl, rfl⟩ := h4
  have I5 : Inv X pins σ H4 { s4 with heap := s4.heap.push { cls := .type "slice", data := .fields #[vl, vu, vs] } } := I4.kept (t' := s4.toks) fun b ob z => Heap.get?_push_of_some _ z
  obtain ⟨its, r, ht, hz⟩ := I5.tuple hx
  have hlen := r.length
  cases pl
  cases pu
  refine tail_any (ops := [.ref a, .ref s4.heap.objs.size]) ht.typeIs PyProof.Rows.slot_tuple_getitem.lookup ?_ (by with_unfolding_all rfl)
  refine getItem_tup_rev ht (Heap.IsSliceOf.new _ .none .none vs) ps ?_ (by rw [List.size_toArray]; omega)
  rw [List.toList_toArray]
  obtain ⟨v', H', I', rv, q'⟩ := laidZ (n := 0) (t' := s4.toks) I5 r.reverse (by rw [List.length_reverse]; exact hz) q
  exact ⟨v', H', I', rv, q'⟩
/-- xs[::-1] of a list or a tuple -/
noncomputable def cRev2 (fr : Bool) (c : CE) : CE := fun ρ S => (c ρ S).bind fun x S1 => match x with
  | .val (.tup ds) => .ok (.val (.tup ds.reverse)) S1
  | x => match asL S1 x with
    | some ds => mkL fr ds.reverse S1
    | none => .bad
theorem PE.or {e : Expr} {t u : TE} (h : PE X e t) (k : PE X e u) : PE X e (fun σ H Q => t σ H Q ∨ u σ H Q) := ⟨fun pins s σ H Q I q => q.elim (h.run pins s σ H Q I) (k.run pins s σ H Q I)⟩
theorem pm_rev2 {cl : ClT} {W : WX} (fr : Bool) {e : Expr} {c : CE} {k : Nat} {p1 p2 p3 pos : Pos} (he : PE X e (tM X.K cl W c)) : PE X (.Subscript e (.Slice none none (some (.UnaryOp .USub (.Constant (.int 1) k p1) p2)) p3) pos) (tM X.K cl W (cRev2 fr c)) :=
  PE.imp (PE.or (pm_rev fr he) (pe_revT he)) fun σ H Q h => by
  obtain ⟨B, m, S, ρ, o, en, fin⟩ := h
  unfold cRev2 at fin
  cases hc : c ρ S with
  | bad => rw [hc] at fin; exact fin.elim
  | exc e' S1 => rw [hc] at fin; exact .inl ⟨B, m, S, ρ, o, en, by unfold cRev; rw [hc]; exact fin⟩
  | ok x S1 =>
    rw [hc] at fin
    cases x with
    | ref i => exact .inl ⟨B, m, S, ρ, o, en, by unfold cRev; rw [hc]; exact fin⟩
    | val d =>
      cases d with
      | tup ds =>
        refine .inr ⟨B, m, S, ρ, o, en, ?_⟩
        rw [hc]
        intro v H1 m1 s1 o1 r1
        obtain ⟨a, vs, rfl, q, rl⟩ := asT_ok (x := .val (.tup ds)) r1 rfl
        exact ⟨a, vs, rfl, q, mkT_ok o1 rl.reverse (Fin.step s1 fin)⟩
      | _ => exact .inl ⟨B, m, S, ρ, o, en, by unfold cRev; rw [hc]; exact fin⟩
end
section
variable {ρ : Slots} {S : Store}
@[simp ↓] theorem ap_Rev2 {fr : Bool} {c : CE} : cRev2 fr c ρ S = (match c ρ S with | .ok x S1 => (match x with | .val (.tup ds) => .ok (.val (.tup ds.reverse)) S1 | x => (match asL S1 x with | some ds => mkL fr ds.reverse S1 | none => .bad)) | .exc e S9 => .exc e S9 | .bad => .bad) := rfl
end
/-! ### sorted(..) -/
noncomputable def dLe (x y : D) : Bool := !PySem.W.dataLt (toP y) (toP x)
theorem dLe_eq : dLe = PySem.W.dataLe false toP := rfl
theorem dLe_total : PySem.W.TotalLe dLe := PySem.W.sortLe_total (listOrd itemOrd) false fun d : D => PySem.W.keyToks (toP d)
noncomputable def insD (x : D) : List D → List D
  | [] => [x]
  | y :: r => if dLe x y then x :: y :: r else y :: insD x r
noncomputable def dSort : List D → List D
  | [] => []
  | x :: r => insD x (dSort r)
theorem insD_mem {x z : D} : ∀ {l : List D}, z ∈ insD x l → z = x ∨ z ∈ l
  | [], h => .inl (List.mem_singleton.mp h)
  | y :: r, h => by
    unfold insD at h
    split at h
    · rcases List.mem_cons.mp h with h | h
      · exact .inl h
      · exact .inr h
    · rcases List.mem_cons.mp h with h | h
      · exact .inr (h ▸ List.mem_cons_self)
      · rcases insD_mem h with h | h
        · exact .inl h
        · exact .inr (List.mem_cons_of_mem _ h)
theorem insD_pw (x : D) : ∀ {l : List D}, l.Pairwise (fun a b => dLe a b = true) → (insD x l).Pairwise (fun a b => dLe a b = true)
  | [], _ => List.pairwise_singleton _ _
  | y :: r, h => by
    unfold insD
    split
    · rename_i hxy
      refine List.pairwise_cons.mpr ⟨fun z hz => ?_, h⟩
      rcases List.mem_cons.mp hz with rfl | hz
      · exact hxy
      · exact dLe_total.trans _ _ _ hxy ((List.pairwise_cons.mp h).1 z hz)
    · rename_i hxy
      have hyx : dLe y x = true := (dLe_total.total x y).resolve_left hxy
      refine List.pairwise_cons.mpr ⟨fun z hz => ?_, insD_pw x (List.pairwise_cons.mp h).2⟩
      rcases insD_mem hz with rfl | hz
      · exact hyx
      · exact (List.pairwise_cons.mp h).1 z hz
theorem dSort_pw : ∀ l : List D, (dSort l).Pairwise (fun a b => dLe a b = true)
  | [] => .nil
  | x :: r => insD_pw x (dSort_pw r)
theorem insD_filter (x c : D) : ∀ l : List D, (insD x l).filter (PySem.W.sameRank dLe c) = (x :: l).filter (PySem.W.sameRank dLe c)
  | [] => rfl
  | y :: r => by
    unfold insD
    split
    · rfl
    · rename_i hxy
      rw [List.filter_cons, insD_filter x c r]
      by_cases hx : PySem.W.sameRank dLe c x = true
      · have hy : PySem.W.sameRank dLe c y = false := by
          refine Bool.eq_false_iff.mpr fun hy => hxy ?_
          unfold PySem.W.sameRank at hx hy
          rw [Bool.and_eq_true] at hx hy
          exact dLe_total.trans _ _ _ hx.2 hy.1
        simp [hx, hy]
      · have hx : PySem.W.sameRank dLe c x = false := by simpa using hx
        simp [List.filter_cons, hx]
theorem dSort_filter (c : D) : ∀ l : List D, (dSort l).filter (PySem.W.sameRank dLe c) = l.filter (PySem.W.sameRank dLe c)
  | [] => rfl
  | x :: r => by
    show (insD x (dSort r)).filter _ = _
    rw [insD_filter, List.filter_cons, List.filter_cons, dSort_filter c r]
theorem dSort_eq (l : List D) : dSort l = l.mergeSort dLe := PySem.W.sort_unique dLe_total (dSort_pw l) fun c => dSort_filter c l
/-- what is sorted: data of one shape; tuples with an item, or none of them a tuple or None -/
noncomputable def srtOk (ds : List D) : Bool := dOkL ds && decide (dDepL ds ≤ 50) && (ds.all fun d => ds.all fun e => PySem.W.alike (toP d) (toP e)) &&
  ((ds.all fun d => match d with | .tup (_ :: _) => true | _ => false) || ds.all fun d => match d with | .non => false | .tup _ => false | _ => true)
noncomputable def fSortD : List A → Store → Res
  | [x], S => (match asL S x with
    | some ds => if srtOk ds then .ok (.val (.lst (dSort ds))) S else .bad
    | none => .bad)
  | _, _ => .bad
section
variable {X : Cx}
noncomputable def rSortD (K : PySem.W.Frag) : List V → Hp → VK → Prop := fun xs H Q => ∃ (a : Addr) (bs : List (V × PyData)), xs = [.ref a] ∧ SqL K H a (bs.map Prod.fst) ∧ (∀ b ∈ bs, Dp K H b.1 b.2 ∧ b.2.depth ≤ 60) ∧ PySem.W.AllAlike (bs.map Prod.snd) ∧ PySem.W.Sortable (bs.map Prod.snd) ∧
  ∀ p, H p = none → Q (.ref p) (upd H p (.lst ((bs.mergeSort (PySem.W.dataLe false Prod.snd)).map Prod.fst)))
theorem each_vals : ∀ {bs : List (V × PyData)} {its : List Value}, Vals (bs.map Prod.fst) its → PySem.W.EachIs (fun u b => RelV b.1 u) its bs
  | [], _, h => by cases h; exact .nil
  | b :: bs, _, h => by
    cases h with
    | cons r t => exact .cons r (each_vals t)
theorem vals_each : ∀ {bs : List (V × PyData)} {its : List Value}, PySem.W.EachIs (fun u b => RelV b.1 u) its bs → Vals (bs.map Prod.fst) its
  | _, _, .nil => .nil
  | _, _, .cons r t => .cons r (vals_each t)
theorem each_reads {pins : List (Addr × Obj)} {σ : L2.St} {H : Hp} {s : Shared} (I : Inv X pins σ H s) : ∀ {bs : List (V × PyData)} {its : List Value}, (∀ b ∈ bs, Dp X.K H b.1 b.2) → PySem.W.EachIs (fun u b => RelV b.1 u) its bs → PySem.W.EachIs (fun u b => ∃ as, Reads s.heap u b.2 as) its bs
  | _, _, _, .nil => .nil
  | b :: bs, _, h, .cons r t => .cons (Dp.reads I b.2 b.1 _ (h b List.mem_cons_self) r) (each_reads I (fun c hc => h c (List.mem_cons_of_mem _ hc)) t)
theorem call_sortedX (hu : X.A.units + 70 < cLine) : CallR X (.builtin "sorted") (rSortD X.K) := by
  rintro pins s σ H xs us Q I r ⟨a, bs, rfl, hq, hb, hal, hk, q⟩
  match r with
  | .cons ru .nil =>
  cases ru
  obtain ⟨its, rv, pl, hz⟩ := I.list hq
  rw [List.length_map] at hz
  have e := each_vals rv
  refine PySem.W.sorted_data (enc := Prod.snd) (R := fun u b => RelV b.1 u) pl.isList e (each_reads I (fun b hb' => (hb b hb').1) e) hal hk hz (fun b hb' => by have := (hb b hb').2; omega) fun out ho eo => ?_
  obtain ⟨n, hn⟩ := sortedAll_at s.heap its out.toArray
  refine ⟨.ref (s.heap.objs.size + 1), _, I.laid (t' := s.toks) (o := .lst ((bs.mergeSort (PySem.W.dataLe false Prod.snd)).map Prod.fst)) (fun b u z => sortedAll_old z) (Nat.le_succ _) ?_, rfl, q _ (I.hok.fresh (Nat.le_succ _))⟩
  refine ⟨?_, out, n, vals_each eo, hn⟩
  rw [List.length_map, List.length_mergeSort]
  exact hz
theorem repL_zip {K : PySem.W.Frag} {cl : ClT} {N : Addr → Prop} {H : Hp} : ∀ {vs : List V} {ds : List D}, RepL K cl N H vs ds → ∃ zs : List (V × D), zs.map Prod.fst = vs ∧ zs.map Prod.snd = ds ∧ ∀ z ∈ zs, Rep K cl N H z.1 z.2
  | _, _, .nil => ⟨[], rfl, rfl, fun z h => by cases h⟩
  | _, _, .cons (v := v) (d := d) r t => by
    obtain ⟨zs, rfl, rfl, h⟩ := repL_zip t
    exact ⟨(v, d) :: zs, rfl, rfl, fun z hz => by
      rcases List.mem_cons.mp hz with rfl | hz
      · exact r
      · exact h z hz⟩
theorem repL_zs {K : PySem.W.Frag} {cl : ClT} {N : Addr → Prop} {H : Hp} : ∀ {zs : List (V × D)}, (∀ z ∈ zs, Rep K cl N H z.1 z.2) → RepL K cl N H (zs.map Prod.fst) (zs.map Prod.snd)
  | [], _ => .nil
  | z :: zs, h => .cons (h z List.mem_cons_self) (repL_zs fun y hy => h y (List.mem_cons_of_mem _ hy))
theorem dOkL_mem : ∀ {ds : List D} {d : D}, dOkL ds = true → d ∈ ds → dOk d = true
  | e :: r, d, h, hm => by
    simp only [dOkL, Bool.and_eq_true] at h
    rcases List.mem_cons.mp hm with rfl | hm
    · exact h.1
    · exact dOkL_mem h.2 hm
theorem dDepL_mem : ∀ {ds : List D} {d : D}, d ∈ ds → dDep d ≤ dDepL ds
  | e :: r, d, hm => by
    show _ ≤ max _ _
    rcases List.mem_cons.mp hm with rfl | hm
    · exact Nat.le_max_left _ _
    · exact Nat.le_trans (dDepL_mem hm) (Nat.le_max_right _ _)
theorem ok_sortD {cl : ClT} : CaOk X.K cl (rSortD X.K) fSortD := by
  intro B H m S σ W vs xs Q o r h
  unfold fSortD at h
  split at h
  · obtain ⟨v, rfl, r1⟩ := one_arg r
    split at h
    · rename_i ds hd
      split at h
      · rename_i hk
        obtain ⟨a, ys, rfl, q, rl⟩ := asL_ok o r1 hd
        obtain ⟨zs, rfl, rfl, hz⟩ := repL_zip rl
        unfold srtOk at hk
        simp only [Bool.and_eq_true, Bool.or_eq_true, decide_eq_true_eq] at hk
        obtain ⟨⟨⟨k1, k2⟩, k3⟩, k4⟩ := hk
        have memz : ∀ z ∈ zs, z.2 ∈ zs.map Prod.snd := fun z hz' => List.mem_map.mpr ⟨z, hz', rfl⟩
        have e0 : (zs.map fun z : V × D => (z.1, toP z.2)).map Prod.fst = zs.map Prod.fst := by rw [List.map_map]; rfl
        have e1 : (zs.map fun z : V × D => (z.1, toP z.2)).map Prod.snd = (zs.map Prod.snd).map toP := by rw [List.map_map, List.map_map]; rfl
        refine ⟨a, zs.map fun z => (z.1, toP z.2), rfl, by rw [e0]; exact q, fun b hb => ?_, ?_, ?_, fun p hp => ?_⟩
        · obtain ⟨z, hz', rfl⟩ := List.mem_map.mp hb
          have ok := dOkL_mem k1 (memz z hz')
          refine ⟨Dp.of (hz z hz') ok, ?_⟩
          rw [depth_toP ok]
          have := dDepL_mem (memz z hz')
          omega
        · rw [e1]
          intro d hd d' hd'
          obtain ⟨x, hx, rfl⟩ := List.mem_map.mp hd
          obtain ⟨y, hy, rfl⟩ := List.mem_map.mp hd'
          exact List.all_eq_true.mp (List.all_eq_true.mp k3 x hx) y hy
        · rw [e1]
          rcases k4 with k4 | k4
          · refine .inl fun d hd => ?_
            obtain ⟨x, hx, rfl⟩ := List.mem_map.mp hd
            have := List.all_eq_true.mp k4 x hx
            match x, this with
            | .tup (y :: r), _ => exact ⟨toP y, toPL r, rfl⟩
          · refine .inr fun d hd => ?_
            obtain ⟨x, hx, rfl⟩ := List.mem_map.mp hd
            have kx := List.all_eq_true.mp k4 x hx
            have ok := dOkL_mem k1 hx
            cases x with
            | non => cases kx
            | tup _ => cases kx
            | wt _ => cases ok
            | dic _ _ => cases ok
            | ins _ _ _ => cases ok
            | _ => exact ⟨fun z => (by cases z), fun xs z => (by cases z)⟩
        · have s1 : ((zs.mergeSort fun x y => dLe x.2 y.2).map fun z : V × D => (z.1, toP z.2)) = (zs.map fun z : V × D => (z.1, toP z.2)).mergeSort (PySem.W.dataLe false Prod.snd) := PySem.W.sort_maps _ fun x _ y _ => rfl
          have s2 : (zs.mergeSort fun x y => dLe x.2 y.2).map Prod.snd = (zs.map Prod.snd).mergeSort dLe := PySem.W.sort_maps _ fun x _ y _ => rfl
          rw [← s1, List.map_map]
          have e2 : (Prod.fst ∘ fun z : V × D => (z.1, toP z.2)) = Prod.fst := rfl
          rw [e2]
          refine mkL_ok (fr := true) (ds := dSort (zs.map Prod.snd)) o ?_ hp h
          rw [dSort_eq, ← s2]
          exact repL_zs fun z hz' => hz z (List.mem_mergeSort.mp hz')
      · exact h.elim
    · exact h.elim
  · exact h.elim
end
end T3
/-! sorted(t), t a tuple of data -/
namespace T3
open PySem PySem.Spec PyProof.Rows L2 PySem.W
section
variable {prog : Program} {w : World} {A : Around} {E : Value → Shared → Prop} {s : Shared} {β : Type} {vs : List Value} {bs : List β} {enc : β → PyData} {R : Value → β → Prop}
/-- collect over a tuple: the new heap has grown -/
theorem collect_grown {Q : List Value → Shared → Prop} (it : Addr) {o : Obj} {items : Array Value} {n : Nat} (ho : s.heap.get? it = some o) (hc : o.cls = .type "tuple") (hd : o.data = .seq items n)
    (hQ : ∀ h', (∀ b o', s.heap.get? b = some o' → h'.get? b = some o') → s.heap.objs.size ≤ h'.objs.size → Q items.toList { s with heap := h' }) (hsz : items.size ≤ sizeLine) : wpAny (model prog w) A (collect (.ref it)) Q E s := by
  unfold collect
  refine wpAny_bind (wpAny_runValue (codeAny_builtin F.entry_proto_collect ?_))
  rw [Around.under_plainId F.plain_proto_collect _]
  show wpAny _ A.in1 (newList [] >>= fun l => again (.builtin "list.__iadd__" ⟨[l, .ref it], []⟩)) _ _ s
  refine wpAny_bind (wpAny_newObj_type (wpAny_pure ⟨plainId_quiet F.plain_list_iadd _, codeAny_builtin F.entry_list_iadd ?_⟩))
  rw [Around.under_plainId F.plain_list_iadd _]
  show wpAny _ A.in1 (Builtin.List.listExtendWith (.ref s.heap.objs.size) (.ref it) (.ref s.heap.objs.size)) _ _ _
  let h1 : Heap := (s.heap.push { cls := .type "list", data := .seq ([] : List Value).toArray }).update s.heap.objs.size (Obj.mapSeq (· ++ items))
  have at0 : (s.heap.push { cls := .type "list", data := .seq ([] : List Value).toArray }).get? s.heap.objs.size = some { cls := .type "list", data := .seq #[] 0 } := Heap.get?_push_size _ rfl
  have at1 := Heap.get?_update_self (Obj.mapSeq (· ++ items)) at0 rfl
  have last : wpAny (model prog w) A (match Value.ref s.heap.objs.size with
      | Value.ref a => do
        match (← load a).data with
          | Data.seq xs _ => pure xs.toList
          | _ => unsupported "internal:collect"
      | _ => unsupported "internal:collect") Q E { s with heap := h1 } := by
    show wpAny _ A (load s.heap.objs.size >>= _) _ _ _
    refine wpAny_bind (wpAny_load at1 (wpAny_pure ?_))
    show Q ((#[] : Array Value) ++ items).toList _
    rw [show ((#[] : Array Value) ++ items).toList = items.toList by simp]
    refine hQ _ (fun b o' hb => (Heap.get?_update_other _ _ (Nat.ne_of_gt (Heap.lt_size hb))).trans (Heap.get?_push_of_some _ hb)) ?_
    rw [Heap.size_update, Heap.size_push]
    exact Nat.le_succ _
  refine wpAny_mono (wpAny_extend_seq (hsz := hsz) (A := A) (R := fun r s' => r = .ok (.ret (.ref s.heap.objs.size)) ∧ s' = { s with heap := h1 }) (s := { s with heap := s.heap.push { cls := .type "list", data := .seq ([] : List Value).toArray } }) _ it _ 0 (.inr rfl) at0 (Heap.get?_push_of_some _ ho) hc hd ⟨rfl, rfl⟩) (fun fin s' h => ?_) fun e s' h => absurd h.1 (by simp)
  cases fin with
  | done f =>
    obtain ⟨e, rfl⟩ := h
    cases e
    exact last
  | again c' => exact ⟨h.1, codeAny_mono h.2 fun r s'' hr => by obtain ⟨rfl, rfl⟩ := hr; exact last⟩
theorem sorted_tup {it : Addr} {o : Obj} {items : Array Value} {n : Nat} {Q : Value → Shared → Prop} (ho : s.heap.get? it = some o) (hc : o.cls = .type "tuple") (hd : o.data = .seq items n) (e : EachIs R items.toList bs) (er : EachIs (fun v b => ∃ as, Reads s.heap v (enc b) as) items.toList bs)
    (hal : AllAlike (bs.map enc)) (hk : Sortable (bs.map enc)) (hL : bs.length ≤ sizeLine) (hu : ∀ b, b ∈ bs → A.units + 2 + (enc b).depth < cLine)
    (h : ∀ (out : List Value) (h' : Heap) (a : Addr) (c : Nat), (∀ b o, s.heap.get? b = some o → h'.get? b = some o) → s.heap.objs.size ≤ a → h'.get? a = some (seqObj "list" out.toArray c) → EachIs R out (bs.mergeSort (dataLe false enc)) → Q (.ref a) { s with heap := h' }) :
    wpAny (model prog w) A (call (.builtin "sorted") [.ref it]) Q E s := by
  have hz : items.toList.length ≤ sizeLine := by rw [e.length]; exact hL
  refine call_function_entry_kw kind_sorted plain_sorted entry_sorted (args_sorted1 _) ?_
  unfold Builtin.«sorted»
  refine wpAny_bind (m := checkCount "sorted" 1 1 _) (wpAny_pure ?_)
  refine wpAny_bind (collect_grown it ho hc hd (fun h1 kp gr => ?_) (by simpa using hz))
  refine wpAny_bind (wpAny_newList ?_ hz)
  have hat : (h1.push (seqObj "list" items.toList.toArray 0)).get? h1.objs.size = some (seqObj "list" items.toList.toArray 0) := Heap.get?_push_size _ rfl
  have kp2 : ∀ b o, s.heap.get? b = some o → (h1.push (seqObj "list" items.toList.toArray 0)).get? b = some o := fun b o q => Heap.get?_push_of_some _ (kp b o q)
  have ne : ∀ b o, s.heap.get? b = some o → b ≠ h1.objs.size := fun b o q => Nat.ne_of_lt (Heap.lt_size (kp b o q))
  have er' : EachIs (fun v b => ∃ as, Reads (sortingHeap (h1.push (seqObj "list" items.toList.toArray 0)) h1.objs.size items.toList) v (enc b) as) items.toList bs :=
    er.mono fun _ _ ⟨as, r⟩ => ⟨as, PyProof.Rows.Reads.keeps (fun b o q => sortingHeap_old (ne b o q) (kp2 b o q)) r⟩
  refine wpAny_bind (wpAny_holding (wpAny_call_entry_kw slot_list_sort ⟨_, hat, rfl⟩ entry_list_sort ?body (args_list_sort _)))
  case body =>
    show wpAny (model prog w) A.in1.in1 (Builtin.«list.sort» ⟨[.ref h1.objs.size], []⟩) _ _ _
    refine list_sort_vals (s := { s with heap := h1.push (seqObj "list" items.toList.toArray 0) }) hat (SortsAt.data (s := { s with heap := sortingHeap (h1.push (seqObj "list" items.toList.toArray 0)) h1.objs.size items.toList }) (each_map (R := fun v d => ∃ as, Reads (sortingHeap (h1.push (seqObj "list" items.toList.toArray 0)) h1.objs.size items.toList) v d as) enc er') hal hk (bound_map hu)) hz ?_
    refine ⟨_, rfl, wpAny_pure ⟨_, rfl, ?_⟩⟩
    obtain ⟨c, hcc⟩ := sortedHeap_at (out := (sortVals (dataKind (sortingHeap (h1.push (seqObj "list" items.toList.toArray 0)) h1.objs.size items.toList) (bs.map enc)) false items.toList items.toList).toArray) hat
    refine h _ _ _ c (fun b o q => ?_) gr hcc (sortVals_data false e er' hal)
    · rw [sortedHeap_old (ne b o q) (Heap.lt_size (kp2 b o q))]
      exact kp2 b o q
end
section
variable {X : Cx}
noncomputable def rSortT (K : PySem.W.Frag) : List V → Hp → VK → Prop := fun xs H Q => ∃ (a : Addr) (bs : List (V × PyData)), xs = [.ref a] ∧ SqT K H a (bs.map Prod.fst) ∧ (∀ b ∈ bs, Dp K H b.1 b.2 ∧ b.2.depth ≤ 60) ∧ PySem.W.AllAlike (bs.map Prod.snd) ∧ PySem.W.Sortable (bs.map Prod.snd) ∧
  ∀ p, H p = none → Q (.ref p) (upd H p (.lst ((bs.mergeSort (PySem.W.dataLe false Prod.snd)).map Prod.fst)))
theorem call_sortedT (hu : X.A.units + 70 < cLine) : CallR X (.builtin "sorted") (rSortT X.K) := by
  rintro pins s σ H xs us Q I r ⟨a, bs, rfl, hq, hb, hal, hk, q⟩
  match r with
  | .cons ru .nil =>
  cases ru
  obtain ⟨its, rv, ⟨o, ho, hc, n, hd⟩, hz⟩ := I.tuple hq
  rw [List.length_map] at hz
  have e := each_vals rv
  refine sorted_tup (enc := Prod.snd) (R := fun u b => RelV b.1 u) ho hc hd (by simpa using e) (by simpa using each_reads I (fun b hb' => (hb b hb').1) e) hal hk hz (fun b hb' => by have := (hb b hb').2; omega) fun out h' p c kp hp hat eo => ?_
  refine ⟨.ref p, _, I.laid (t' := s.toks) (o := .lst ((bs.mergeSort (PySem.W.dataLe false Prod.snd)).map Prod.fst)) kp hp ?_, rfl, q _ (I.hok.fresh hp)⟩
  refine ⟨?_, out, c, vals_each eo, hat⟩
  rw [List.length_map, List.length_mergeSort]
  exact hz
theorem asT_tup {B : Addr → Prop} {H : Hp} {m : List Addr} {v : V} {ds : List D} {K : PySem.W.Frag} {cl : ClT} (r : RepA K cl (NN B m) H m v (.val (.tup ds))) : ∃ a xs, v = .ref a ∧ SqT K H a xs ∧ RepL K cl (NN B m) H xs ds := by
  cases r with
  | tup t q => exact ⟨_, _, rfl, t.seq, q⟩
/-- sorted of a list or a tuple -/
noncomputable def fSortD2 : List A → Store → Res
  | [.val (.tup ds)], S => if srtOk ds then .ok (.val (.lst (dSort ds))) S else .bad
  | xs, S => fSortD xs S
theorem call_sorted2 (hu : X.A.units + 70 < cLine) : CallR X (.builtin "sorted") (fun xs H Q => rSortD X.K xs H Q ∨ rSortT X.K xs H Q) := CallR.or (call_sortedX hu) (call_sortedT hu)
theorem ok_sortD2 {cl : ClT} : CaOk X.K cl (fun xs H Q => rSortD X.K xs H Q ∨ rSortT X.K xs H Q) fSortD2 := by
  intro B H m S σ W vs xs Q o r h
  unfold fSortD2 at h
  split at h
  · rename_i ds S
    obtain ⟨v, rfl, r1⟩ := one_arg r
    split at h
    · rename_i hk
      obtain ⟨a, ys, rfl, q, rl⟩ := asT_tup r1
      obtain ⟨zs, rfl, rfl, hz⟩ := repL_zip rl
      have hk0 := hk
      unfold srtOk at hk
      simp only [Bool.and_eq_true, Bool.or_eq_true, decide_eq_true_eq] at hk
      obtain ⟨⟨⟨k1, k2⟩, k3⟩, k4⟩ := hk
      have memz : ∀ z ∈ zs, z.2 ∈ zs.map Prod.snd := fun z hz' => List.mem_map.mpr ⟨z, hz', rfl⟩
      have e0 : (zs.map fun z : V × D => (z.1, toP z.2)).map Prod.fst = zs.map Prod.fst := by rw [List.map_map]; rfl
      have e1 : (zs.map fun z : V × D => (z.1, toP z.2)).map Prod.snd = (zs.map Prod.snd).map toP := by rw [List.map_map, List.map_map]; rfl
      refine .inr ⟨a, zs.map fun z => (z.1, toP z.2), rfl, by rw [e0]; exact q, fun b hb => ?_, ?_, ?_, fun p hp => ?_⟩
      · obtain ⟨z, hz', rfl⟩ := List.mem_map.mp hb
        have ok := dOkL_mem k1 (memz z hz')
        refine ⟨Dp.of (hz z hz') ok, ?_⟩
        rw [depth_toP ok]
        have := dDepL_mem (memz z hz')
        omega
      · rw [e1]
        intro d hd d' hd'
        obtain ⟨x, hx, rfl⟩ := List.mem_map.mp hd
        obtain ⟨y, hy, rfl⟩ := List.mem_map.mp hd'
        exact List.all_eq_true.mp (List.all_eq_true.mp k3 x hx) y hy
      · rw [e1]
        rcases k4 with k4 | k4
        · refine .inl fun d hd => ?_
          obtain ⟨x, hx, rfl⟩ := List.mem_map.mp hd
          have := List.all_eq_true.mp k4 x hx
          match x, this with
          | .tup (y :: r), _ => exact ⟨toP y, toPL r, rfl⟩
        · refine .inr fun d hd => ?_
          obtain ⟨x, hx, rfl⟩ := List.mem_map.mp hd
          have kx := List.all_eq_true.mp k4 x hx
          have ok := dOkL_mem k1 hx
          cases x with
          | non => cases kx
          | tup _ => cases kx
          | wt _ => cases ok
          | dic _ _ => cases ok
          | ins _ _ _ => cases ok
          | _ => exact ⟨fun z => (by cases z), fun xs z => (by cases z)⟩
      · have s1 : ((zs.mergeSort fun x y => dLe x.2 y.2).map fun z : V × D => (z.1, toP z.2)) = (zs.map fun z : V × D => (z.1, toP z.2)).mergeSort (PySem.W.dataLe false Prod.snd) := PySem.W.sort_maps _ fun x _ y _ => rfl
        have s2 : (zs.mergeSort fun x y => dLe x.2 y.2).map Prod.snd = (zs.map Prod.snd).mergeSort dLe := PySem.W.sort_maps _ fun x _ y _ => rfl
        rw [← s1, List.map_map]
        have e2 : (Prod.fst ∘ fun z : V × D => (z.1, toP z.2)) = Prod.fst := rfl
        rw [e2]
        refine mkL_ok (fr := true) (ds := dSort (zs.map Prod.snd)) o ?_ hp h
        rw [dSort_eq, ← s2]
        exact repL_zs fun z hz' => hz z (List.mem_mergeSort.mp hz')
    · exact h.elim
  · exact .inl (ok_sortD o r h)
end
end T3
/-! own error classes whose __init__ says super().__init__() and stores one field -/
namespace T3.XI
open PySem PySem.W PySem.Calls PyProof.Rows
noncomputable def ag (f : Str) (p1 p2 : Pos) : Arguments := { posonlyargs := [], args := [{ arg := "self", annotation := none, pos := p1 }, { arg := f, annotation := none, pos := p2 }], vararg := none, kwonlyargs := [], kw_defaults := [], kwarg := none, defaults := [] }
noncomputable def bd (f : Str) (p0 p1 p2 p3 p4 q1 q2 q3 q4 : Pos) : List Stmt := [.Expr (.Call (.Attribute (.Call (.Name "super" p0) [] [] p1) "__init__" p2) [] [] p3) p4, .Assign [.Attribute (.Name "self" q1) f q2] (.Name f q3) q4]
noncomputable def sc (f : Str) : Scope := { kind := .function, names := [(PySem.Str.ofString "self", .local), (f, .local), (PySem.Str.ofString "__class__", .free), (PySem.Str.ofString "super", .globalImplicit)], isGenerator := false, isCoroutine := false, more := [] }
/-- the built-in base -/
structure BaseX (B newId initId : String) (bmB : List Value) : Prop where
  fb : ExcBaseFacts B newId initId bmB
  kf : KxsFacts B initId
  sf : StoreFacts B bmB "object.__setattr__" "object"
/-- what the written part says of the class at C and of its __init__ at fI -/
structure XTxt (prog : Program) (K : Frag) (mg : Str → Option Value) (nm f : Str) (C fI : Addr) (B newId initId : String) (bmB : List Value) : Prop where
  gC : mg nm = some (.ref C)
  base : BaseX B newId initId bmB
  q : excInitIn K C bmB newId = true
  ov : excOver K C bmB = true
  sa : findIn K (.ref C) "__setattr__" = some (some (.builtin "object.__setattr__"))
  noF : findIn K (.ref C) f = some none
  hd : hasDictIn K C = true
  iC : findIn K (.ref C) "__init__" = some (some (.ref fI))
  tI : isFn K (.ref fI) = true
  kC : keepIn K (.ref C) = true
  exC : subIn K (.ref C) (.type "BaseException") = some true
  tyC : typeIn K (.ref C) = some (.type "type")
  sB : subIn K (.ref C) (.type B) = some true
  mC : mroIn K C (.ref C) = some true
  sup : ks_superIn K C C "__init__" = some (some (.builtin initId))
  noS : nsIn K mainGlobals "super" = some none
  any : nsIn K cStatics "thirdparty.any" = some none
  top : (prog.main.scope.names.lookup ("super" : Str)).isSome = false
  fn : ∃ (oc : Value) (od : Option Addr) (dV kV doc pm : Value) (an : Option Addr) (cda : Addr) (ct : Value) (cc : Addr) (osl : Array (Option Value)) (qual : Str) (p1 p2 p0 a1 a2 a3 a4 q1 q2 q3 q4 : Pos),
    K.lookup fI = some ⟨oc, od, .func (ksFn "__init__" qual (ag f p1 p2) (bd f p0 a1 a2 a3 a4 q1 q2 q3 q4) (sc f) dV kV doc pm an (.ref cda) ct cc), osl⟩ ∧ dV = .none ∧ (a2.endLine == a3.line) = true ∧ codeIn K (.ref cda) qual = true ∧
    (∃ ccl cdd vs ccs file tf, K.lookup cda = some ⟨ccl, cdd, .fields vs, ccs⟩ ∧ vs[2]? = some (.str file tf) ∧ ((prog.main.file : Str) == file) = true) ∧
    ∃ cl cld csl, K.lookup cc = some ⟨cl, cld, .cell (some (.ref C)), csl⟩
section
variable {prog : Program} {w : World} {A : Around} {E : Value → Shared → Prop} {R : Result → Shared → Prop} {s : Shared} {K : Frag} {mg : Str → Option Value} {nm f : Str} {C fI : Addr} {B newId initId : String} {bmB : List Value}
/-- what __init__ leaves of a fresh exception at x -/
structure End (h h' : Heap) (x C dx t1 : Addr) (f : Str) (v : Value) : Prop where
  keep : ∀ b o, b ≠ x → h.get? b = some o → h'.get? b = some o
  obj : h'.get? x = some (excObj C t1 (some dx) .none)
  dbig : h.objs.size ≤ dx
  dne : dx ≠ x
  ns : h'.Ns1 dx (fun y => if y = f then some v else none)
theorem cls_isSome {C : Addr} (q : excOver K C bmB = true) : ∃ cd, clsIn K C = some cd := by
  unfold excOver at q
  cases h : clsIn K C with
  | none => rw [h] at q; cases q
  | some cd => exact ⟨cd, rfl⟩
theorem sup_node {g : Heap} {L x cc cda so : Addr} {m : Str → Option Value} {news : List (Addr × Obj)} {ox : Obj} {fd : FuncData} {oc ccl cl : Value} {od cdd cld : Option Addr} {osl ccs csl : Array (Option Value)} {vs : Array Value} {file : Str} {tf : Tok} {body : List Stmt} {qual : Str} {p0 p1 : Pos} {cd : ClassData} {whole : Sem Value} {Q : Value → Shared → Prop}
    (Fg : Fr g L s.heap m) (Kg : K.In g) (Ng : News g L s.heap news) (G : s.heap.Ns mainGlobals mg) (Bl : ∃ mb, s.heap.Ns builtinsNs mb ∧ ∀ x : Str, x ≠ "__name__" → mb x = bootBuiltins x) (noS : mg "super" = none)
    (hf : K.lookup fI = some ⟨oc, od, .func fd, osl⟩) (hp : ∃ p1, (fd.params.posonlyargs ++ fd.params.args).head? = some { arg := "self", annotation := none, pos := p1 }) (hv : m "self" = some (.ref x)) (I : InstAt s.heap x ox C none)
    (hcode : K.lookup cda = some ⟨ccl, cdd, .fields vs, ccs⟩) (hvs : vs[2]? = some (.str file tf)) (hfile : ((prog.main.file : Str) == file) = true) (hcell : K.lookup cc = some ⟨cl, cld, .cell (some (.ref C)), csl⟩)
    (hcd : clsIn K C = some cd) (hm : mroIn K C (.ref C) = some true) (htop : (prog.main.scope.names.lookup ("super" : Str)).isSome = false)
    (hks : (sc f).names.lookup ("super" : Str) = some .globalImplicit) (hkc : (sc f).names.lookup ("__class__" : Str) = some .free)
    (h : ∀ so h', Fr g L h' m → News g L h' ((so, ks_superObj C x C) :: news) → (∀ p ∈ news, p.1 < so) → Q (.ref so) { s with heap := h' }) :
    _root_.PySem.wpAt (model prog w) A (.func body (ksEnv qual (sc f) L fI (.ref cda) cc)) (attributeBase (.Call (.Name "super" p0) [] [] p1) "__init__" (ksEnv qual (sc f) L fI (.ref cda) cc) whole) Q E s := by
  have X : K.In s.heap := Kg.keeps Fg.keep
  obtain ⟨mb, b1, b2⟩ := Bl
  obtain ⟨p1', hp⟩ := hp
  obtain ⟨hh, gg, d, t, os⟩ := s
  have hD : ∃ oD, hh.get? C = some oD ∧ oD.data = .cls cd := by
    have e := hcd
    unfold clsIn at e
    split at e
    · rename_i c d cd' sl ho
      injection e with e
      exact ⟨_, X _ _ ho, by rw [e]⟩
    · cases e
  obtain ⟨oD, d1, d2⟩ := hD
  refine ks_wpAt_super_base (env := ksEnv qual (sc f) L fI (.ref cda) cc) hks hkc (by decide) rfl (X _ _ hf) rfl hp rfl (X _ _ hcode) rfl hvs hfile htop (ks_loadName_global rfl hks (loadGlobal_builtin (env := ksEnv qual (sc f) L fI (.ref cda) cc) G noS b1 ((b2 _ (by decide +kernel)).trans (by first | rfl | kernel_rfl)) ⟨rfl, ?_⟩))
  refine wpAny_loadName_free rfl hkc rfl ⟨_, X _ _ hcell, rfl⟩ (wpAny_loadName_local rfl rfl Fg.ns hv (ks_wpAny_isType_cls d1 d2 ⟨rfl, ks_wpAny_call_super d1 d2 I.at_ I.cls (fun c e => ?_) (looks_mroIn X hm) fun h' e k => ?_⟩))
  · have n := I.no
    rw [show notCls ox = false from by unfold notCls; rw [e]] at n
    cases n
  · obtain ⟨F', N', l'⟩ := ks_newsPush (s := ⟨hh, gg, d, t, os⟩) Fg Ng rfl e k
    exact h _ _ F' N' l'
end
end T3.XI
namespace T3.XI
open PySem PySem.W PySem.Calls PyProof.Rows
section
variable {prog : Program} {w : World} {A : Around} {E : Value → Shared → Prop} {R : Result → Shared → Prop} {s : Shared} {K : Frag} {mg : Str → Option Value} {nm f : Str} {C fI : Addr} {B newId initId : String} {bmB : List Value}
theorem ev_sup {env : Env} {a0 a1 a2 a3 : Pos} (hl : (a2.endLine == a3.line) = true) : eval (.Call (.Attribute (.Call (.Name "super" a0) [] [] a1) "__init__" a2) [] [] a3) env = (do
      let ov ← attributeBase (.Call (.Name "super" a0) [] [] a1) "__init__" env (eval (.Call (.Name "super" a0) [] [] a1) env)
      standAt a2.atName
      let (f, first) ← holding [ov] (getMethod ov "__init__" (L2.plainOf (.Call (.Name "super" a0) [] [] a1) env))
      callWith a3 f first (backTo a3 (starEach [] env)) []) := by
  have e : ∀ ov, methodCall (.Call (.Name "super" a0) [] [] a1) "__init__" a2 a3 env ov 0 (backTo a3 (starEach [] env)) [] = _ := fun ov => L2.mcall_line (m := "__init__") (n := 0) (args := backTo a3 (starEach [] env)) (kws := []) rfl hl
  show (attributeBase (.Call (.Name "super" a0) [] [] a1) "__init__" env (eval (.Call (.Name "super" a0) [] [] a1) env) >>= fun ov => standAt a2.atName >>= fun _ => methodCall (.Call (.Name "super" a0) [] [] a1) "__init__" a2 a3 env ov 0 (backTo a3 (starEach [] env)) []) = _
  simp only [e]
theorem x_init (hf : f = "given" ∨ f = "index") (T : XTxt prog K mg nm f C fI B newId initId bmB) {x t0 : Addr} {v : Value} (X : K.In s.heap) (hlim : s.heap.NoLimit) (G : s.heap.Ns mainGlobals mg) (Bl : ∃ mb, s.heap.Ns builtinsNs mb ∧ ∀ x : Str, x ≠ "__name__" → mb x = bootBuiltins x)
    (noS : mg "super" = none) (hx : s.heap.get? x = some (excObj C t0 none .none)) (hnx : K.lookup x = none) (hroom : A.depth < recursionLimit)
    (hq : ∀ h' tk dx t1, End s.heap h' x C dx t1 f v → R (.ok (.ret .none)) { s with heap := h', toks := tk }) :
    codeAny (model prog w) A (.call (.ref fI) ⟨[.ref x, v], []⟩) R s := by
  obtain ⟨oc, od, dV, kV, doc, pm, an, cda, ct, cc, osl, qual, p1, p2, p0, a1, a2, a3, a4, q1, q2, q3, q4, ho, hdv, hln, hcd, ⟨ccl, cdd, vs, ccs, file, tf, k1, k2, k3⟩, cl, cld, csl, k4⟩ := T.fn
  subst hdv
  obtain ⟨cd, hcls⟩ := cls_isSome T.ov
  have hxne : ∀ o, K.lookup x = some o → False := fun o e => by rw [hnx] at e; cases e
  refine ks_codeAny_call_defAt (fd := ksFn "__init__" qual (ag f p1 p2) (bd f p0 a1 a2 a3 a4 q1 q2 q3 q4) (sc f) .none kV doc pm an (.ref cda) ct cc) (body := bd f p0 a1 a2 a3 a4 q1 q2 q3 q4) (binds := [("self", .ref x), (f, v)]) hroom (X _ _ ho) rfl hlim (codeRec_of X hcd) rfl ?_ ?_ ?_ (fun h₁ hns k => ?_) rfl rfl rfl
  · rcases hf with rfl | rfl <;> exact BindsTo.of_eq (by first | rfl | with_unfolding_all rfl)
  · show ∀ x ∈ (sc f).names, x.2 ≠ .cell
    rcases hf with rfl | rfl <;> decide
  · intro y hy
    show (sc f).names.lookup y.1 = some .local
    rcases List.mem_cons.mp hy with rfl | hy
    · rfl
    · rw [List.mem_singleton.mp hy]
      rcases hf with rfl | rfl <;> rfl
  have X1 : K.In h₁ := X.keeps k
  have Fg : Fr (hideAll s.heap [x]) s.heap.objs.size h₁ _ := ⟨hns, fun b o e => k b o (of_hideAll _ e), Nat.le_of_eq (hideAll_size _ _)⟩
  have Kg : K.In (hideAll s.heap [x]) := fun a o e => hideAll_get _ (X a o e) (fun z => hxne o (by rw [← List.mem_singleton.mp z]; exact e))
  have hxL : x ≠ s.heap.objs.size := Nat.ne_of_lt (Heap.lt_size hx)
  have Ng : News (hideAll s.heap [x]) s.heap.objs.size h₁ [(x, excObj C t0 none .none)] := fun p hp => by
    rw [List.mem_singleton.mp hp]
    exact ⟨k _ _ hx, hxL, hideAll_none _ List.mem_cons_self⟩
  have mS : List.lookup ("self" : Str) ([("self", Value.ref x), (f, v)] : List (Str × Value)).reverse = some (Value.ref x) := by rcases hf with rfl | rfl <;> rfl
  have mF : List.lookup f ([("self", Value.ref x), (f, v)] : List (Str × Value)).reverse = some v := by rcases hf with rfl | rfl <;> rfl
  have s1 : (sc f).names.lookup ("super" : Str) = some .globalImplicit := by rcases hf with rfl | rfl <;> rfl
  have s2 : (sc f).names.lookup ("__class__" : Str) = some .free := by rcases hf with rfl | rfl <;> rfl
  have s3 : (sc f).names.lookup f = some .local := by rcases hf with rfl | rfl <;> rfl
  have dbg : (f == ("__debug__" : Str)) = false := by rcases hf with rfl | rfl <;> decide
  show _root_.PySem.wpAt _ _ _ (execs (bd f p0 a1 a2 a3 a4 q1 q2 q3 q4) (ksEnv qual (sc f) s.heap.objs.size fI (.ref cda) cc)) _ _ _
  refine ks_wpAt_execs_cons (ks_wpAt_Expr_any (ks_wpAt_MethodCall ?_ (ev_sup hln)))
  refine sup_node (so := 0) (C := C) (fI := fI) (f := f) (s := { s with heap := h₁, toks := _ }) Fg Kg Ng (G.keeps k) (let ⟨mb, b1, b2⟩ := Bl; ⟨mb, b1.keeps k, b2⟩) noS ho ⟨p1, rfl⟩ mS ⟨k _ _ hx, rfl, rfl, trivial⟩ k1 k2 k3 k4 hcls T.mC T.top s1 s2 (fun so h2 F2 N2 l2 => ?_)
  have I2 : InstAt h2 x (excObj C t0 none .none) C none := ⟨(N2 (x, excObj C t0 none .none) (by simp)).1, rfl, rfl, trivial⟩
  have soX : so ≠ x := fun z => Nat.lt_irrefl _ (z ▸ l2 _ (List.mem_singleton.mpr rfl))
  refine kxs_method (s := { s with heap := h2, toks := _ }) T.base.kf F2 Kg N2 List.mem_cons_self I2 T.any T.sup T.sB (by decide) (fun u h3 F3 N3 l3 => ?_)
  have uX : u ≠ x := fun z => by
    have := l3 (x, excObj C t0 none .none) (by simp)
    rw [z] at this
    exact Nat.lt_irrefl _ this
  refine kxs_callWith0 (s := { s with heap := h3, toks := _ }) N3 List.mem_cons_self ?_
  refine kxs_call (s := { s with heap := h3, toks := _ }) (rest := []) F3 Kg N3 T.base.fb T.q List.mem_cons_self (.tail uX (.tail soX (.head (fun p hp => by cases hp)))) (Nat.zero_le _) (fun t' h4 F4 N4 l4 => ?_)
  have X4 : K.In h4 := Kg.keeps F4.keep
  have hx4 := (N4 (x, excObj C t' none .none) (by simp)).1
  have I4 : InstAt h4 x (excObj C t' none .none) C none := ⟨hx4, rfl, rfl, trivial⟩
  have ht : takerIn K C f = some none := by
    unfold takerIn
    rw [T.noF]
    rfl
  have hdc : cd.hasDict = true := by
    have e := T.hd
    unfold hasDictIn at e
    rw [hcls] at e
    exact e
  show _root_.PySem.wpAt _ _ _ (execs [.Assign [.Attribute (.Name "self" q1) f q2] (.Name f q3) q4] (ksEnv qual (sc f) s.heap.objs.size fI (.ref cda) cc)) _ _ _
  refine ks_wpAt_execs_cons (ks_wpAt_Assign_Attr (wpAt_of_wpAny (wpAny_Name (wpAny_loadName_local rfl s3 F4.ns mF ?_) dbg)))
  refine wpAny_Name (wpAny_loadName_local rfl rfl F4.ns mS ?_) (by decide)
  refine set_plain (od := none) X4 ⟨hx4, rfl, rfl, trivial⟩ T.sa (osa_openX T.base.sf X4 I4 T.ov ht fun b => ?_)
  have hcd4 : Looks (model prog w) h4 (classData C) cd := looks_clsIn X4 hcls
  have hxs : x ≠ h4.objs.size := Nat.ne_of_lt (Heap.lt_size hx4)
  obtain ⟨c1, c2, c3, c4, c5, c6, c7, c8, c9, c10, c11⟩ := cd
  dsimp only at hdc
  subst hdc
  unfold Builtin.ObjectAttr.storeInOwnDict Builtin.ObjectAttr.ownDictForStores
  repeat first
    | (with_reducible refine HandSPX.store_in_new ?_ ?_)
    | (with_reducible refine wpAny_loadPart_at hx4 ?_)
    | (with_reducible refine hcd4.at ?_)
    | wp_step
  · exact ⟨_, #[], _, (Heap.get?_update_ne _ _ _ _ hxs.symm).trans (Heap.get?_push_at rfl rfl), rfl, fun e he => absurd he (by simp), fun _ => rfl⟩
  · intro h5 tk5 hn5 hs5
    refine wpAt_of_wpAny (wpAny_execs_nil ?_)
    have step : ∀ b o, b ≠ x → h4.get? b = some o → h5.get? b = some o := fun b o hb e =>
      (hs5.2 b (Nat.ne_of_lt (Heap.lt_size e))).trans ((Heap.get?_update_ne _ _ _ _ (Ne.symm hb.symm)).trans (Heap.get?_push_of_some _ e))
    refine hq h5 tk5 h4.objs.size t' ⟨fun b o hb e => step b o hb (F4.keep b o (hideAll_get _ e fun z => hb (List.mem_singleton.mp z))), ?_, Nat.le_of_lt F4.ns.lt, hxs.symm, hn5⟩
    exact (hs5.2 x hxs).trans (Heap.get?_update_self _ (Heap.get?_push_of_some _ hx4) rfl)
end
end T3.XI
namespace T3.XI
open PySem PySem.W PySem.Calls PyProof.Rows
section
variable {prog : Program} {w : World} {A : Around} {E : Value → Shared → Prop} {R : Result → Shared → Prop} {s : Shared} {K : Frag} {mg : Str → Option Value} {nm f : Str} {C fI : Addr} {B newId initId : String} {bmB : List Value}
/-- a made error -/
structure Made (h h' : Heap) (e C d : Addr) (f : Str) (v : Value) : Prop where
  keep : ∀ b o, h.get? b = some o → h'.get? b = some o
  new : h.objs.size ≤ e
  obj : ∃ oe vs, h'.get? e = some oe ∧ oe.cls = .ref C ∧ oe.dict = some d ∧ oe.data = .fields vs ∧ vs[1]? = some .none
  dbig : h.objs.size ≤ d
  dne : d ≠ e
  ns : h'.Ns1 d (fun y => if y = f then some v else none)
theorem size1 (v : Value) : [v].length ≤ sizeLine := by
  rw [sizeLine_eq]
  exact (by decide : 1 ≤ 16777216)
theorem x_made (hf : f = "given" ∨ f = "index") (T : XTxt prog K mg nm f C fI B newId initId bmB) {v : Value} (X : K.In s.heap) (hlim : s.heap.NoLimit) (G : s.heap.Ns mainGlobals mg) (Bl : ∃ mb, s.heap.Ns builtinsNs mb ∧ ∀ x : Str, x ≠ "__name__" → mb x = bootBuiltins x)
    (noS : mg "super" = none) (hroom : A.depth + 1 < recursionLimit)
    (hq : ∀ h' tk e d, Made s.heap h' e C d f v → R (.ok (.ret (.ref e))) { s with heap := h', toks := tk }) : codeAny (model prog w) A (.call (.ref C) ⟨[v], []⟩) R s := by
  obtain ⟨n1, n2, n3, n4, bm, n6, n7, n8, n9, n10, n11, m0, m1, m2, m3, m5, hC, hT⟩ := excInit_of X T.q
  obtain ⟨oI, hoI, hcI⟩ : ∃ oI, s.heap.get? fI = some oI ∧ oI.cls = .type "function" := by
    obtain ⟨o, ho, hc⟩ := Option.map_eq_some_iff.mp (show (K.lookup fI).map (·.cls) = some (.type "function") from beq_iff_eq.mp T.tI)
    exact ⟨o, X _ _ ho, hc⟩
  obtain ⟨hp, g, dr, tk, os⟩ := s
  have k : ∀ b o, hp.get? b = some o → ((hp.push (kdv_tup [v])).push (HandSPX.excO C hp.objs.size)).get? b = some o := fun b o e => Heap.get?_push_of_some _ (Heap.get?_push_of_some _ e)
  have hnew : ((hp.push (kdv_tup [v])).push (HandSPX.excO C hp.objs.size)).get? (hp.objs.size + 1) = some (HandSPX.excO C hp.objs.size) := by heap_get
  have hnx : K.lookup (hp.objs.size + 1) = none := by
    cases e : K.lookup (hp.objs.size + 1) with
    | none => rfl
    | some o =>
      have z : hp.objs.size + 1 < hp.objs.size := Heap.lt_size (show hp.get? (hp.objs.size + 1) = some o from X _ _ e)
      omega
  refine HandSPX.call_own T.base.fb hT hC (looks_findIn X T.iC) (fun self => exc_bind hoI hcI self) (size1 v) ?_
  obtain ⟨mb, b1, b2⟩ := Bl
  refine x_init (s := ⟨(hp.push (kdv_tup [v])).push (HandSPX.excO C hp.objs.size), g, dr, tk, os⟩) hf T (X.keeps k) (hlim.keeps k) (G.keeps k) ⟨mb, b1.keeps k, b2⟩ noS hnew hnx hroom fun h' tk' dx t1 M => ⟨rfl, hq h' tk' (hp.objs.size + 1) dx ?_⟩
  have big := M.dbig
  rw [Heap.size_push, Heap.size_push] at big
  exact ⟨fun b o e => M.keep b o (Nat.ne_of_lt (Nat.lt_succ_of_lt (Heap.lt_size e))) (k b o e), Nat.le_succ _, ⟨_, _, M.obj, rfl, rfl, rfl, rfl⟩, (by omega : hp.objs.size ≤ dx), M.dne, M.ns⟩
end
end T3.XI
namespace T3
open PySem PySem.Spec PyProof.Rows L2
theorem relO_one {f : Str} {v : V} {u : Value} (r : RelV v u) (g : Str) : RelO (List.lookup g [(f, v)]) (if g = f then some u else none) := by
  by_cases h : g = f
  · rw [if_pos h, List.lookup, show (g == f) = true from by rw [h]; exact beq_self_eq_true f]
    exact r
  · rw [if_neg h, List.lookup, show (g == f) = false from beq_eq_false_iff_ne.mpr h]
    trivial
section
variable {X : Cx} {nm f : Str} {C fI : Addr} {B newId initId : String} {bmB : List Value}
/-- C(e) -/
noncomputable def tMkX (C : Addr) (f : Str) (ta : TA) : L2.St → Hp → XK → Prop := fun σ H Q => ta σ H fun vs H1 => ∃ v, vs = [v] ∧ ∀ d, H1 d = none → Q (.ref C) (some d) (upd H1 d (.xd [(f, v)]))
theorem pmk_x {a : Expr} {ta : TA} {p pos : Pos} {k : Nat} (hf : f = "given" ∨ f = "index") (T : XI.XTxt X.prog X.K X.mg nm f C fI B newId initId bmB) (hr : Room k X.A) (ha : PA X [a] ta) (hg : Gl X nm) (noS : X.mg "super" = none)
    (he : starEach (a :: []) X.env = (false, eval a X.env) :: starEach [] X.env := by rfl) (hpl : (backTo pos (starEach [] X.env)).any (·.1) = false := by rfl) (hdb : (nm == ("__debug__" : Str)) = false := by decide) :
    PMk X (.Call (.Name nm p) [a] [] pos) (tMkX C f ta) := by
  intro pins s σ H Q I h
  refine wpAny_Call_Name_kw (ld_glob I hg T.gC ?_ hdb)
  refine PySem.W.callWith_K (h₀ := X.base) I.ok.mod.kin T.kC (thn (ha.run pos pins s σ H _ I h) fun us s1 hh => ?_) he hpl
  obtain ⟨vs, H1, I1, r1, v, rfl, q1⟩ := hh
  refine ⟨I1.kIn, ?_⟩
  cases r1 with
  | cons rv rn =>
  rename_i u us'
  cases rn
  have hlim := I1.nolimit
  have room : X.A.depth + 1 < recursionLimit := by have := hr.dp; omega
  have blt : ∃ mb, s1.heap.Ns builtinsNs mb ∧ ∀ x : Str, x ≠ "__name__" → mb x = bootBuiltins x := let ⟨mb, b1, b2⟩ := I1.ok.mod.blt; ⟨mb, b1.keeps I1.bk, b2⟩
  refine wpAny_call (XI.x_made hf T I1.kIn hlim (I1.ok.mod.glob.keeps I1.bk) blt noS room fun h' tk e d M => ?_)
  show MkP X pins σ Q (.ref e) { s1 with heap := h', toks := tk }
  obtain ⟨oe, fv, hoe, hc, hd, hdat, h1⟩ := M.obj
  obtain ⟨G, g1, g2⟩ := restrict h' fun b => decide (b ≠ e)
  have gk : ∀ b, b ≠ e → G.get? b = h'.get? b := fun b hb => g1 b (decide_eq_true hb)
  have ge : G.get? e = none := g2 e (by simp)
  have old : ∀ b o, s1.heap.get? b = some o → G.get? b = some o := fun b o q => (gk b (Nat.ne_of_lt (Nat.lt_of_lt_of_le (Heap.lt_size q) M.new))).trans (M.keep b o q)
  have ob : ObjOk X.prog X.w (upd H1 d (.xd [(f, v)])) G d (.xd [(f, v)]) := ⟨_, M.ns.at (fun o q => (gk d M.dne).trans q), fun g => relO_one rv g⟩
  have J : Inv X pins σ (upd H1 d (.xd [(f, v)])) { s1 with heap := G, toks := tk } := I1.laid (t' := tk) old M.dbig ob
  refine ⟨e, oe, fv, { s1 with heap := G, toks := tk }, _, .ref C, some d, rfl, J, fun b o q => ?_, ge, hoe, ⟨hc, hd⟩, hdat, h1, ?_, rfl, I1.bare, raises_own T.exC T.tyC, q1 d (I1.hok.fresh M.dbig)⟩
  · by_cases hb : b = e
    · have q' : G.get? b = some o := q
      rw [hb, ge] at q'
      cases q'
    · exact (gk b hb).symm.trans q
  · rw [upd_ne (Ne.symm M.dne)]
    exact I1.hok.fresh M.new
end
end T3
namespace T3
open PySem PySem.Spec PyProof.Rows L2
/-! ### raise C(e) -/
noncomputable def sRaiseX (c : Nat) (f : Str) (e : CE) : CS := fun ρ S => match e ρ S with
  | .ok (.val d) S1 => .exc ⟨c, [f], [d]⟩ ρ S1
  | .ok (.ref _) _ => .bad
  | .exc x S1 => .exc x ρ S1
  | .bad => .bad
section
variable {X : Cx} {cl : ClT} {W : WX} {nm f : Str} {fI : Addr} {B newId initId : String} {bmB : List Value}
theorem pm_raiseX (c : Nat) {a : Expr} {e : CE} {p pos pos2 : Pos} {k : Nat} (hc : X.calm = true) (tk : Takes X W) (hf : f = "given" ∨ f = "index") (T : XI.XTxt X.prog X.K X.mg nm f (cl c) fI B newId initId bmB) (hr : Room k X.A) (noS : X.mg "super" = none) (ha : PE X a (tM X.K cl W e)) (hg : Gl X nm := by rfl)
    (he : starEach (a :: []) X.env = (false, eval a X.env) :: starEach [] X.env := by rfl) (hpl : (backTo pos (starEach [] X.env)).any (·.1) = false := by rfl) (hdb : (nm == ("__debug__" : Str)) = false := by decide) :
    PS X (.Raise (some (.Call (.Name nm p) [a] [] pos)) none pos2) (tMS X.K cl W (sRaiseX c f e)) := PS.imp (ps_raise hc tk (pmk_x hf T hr (pm_cons ha pm_nil (hs := he)) hg noS he hpl hdb)) fun E σ H h => by
  obtain ⟨B0, m, S, ρ, o, en, fin⟩ := h
  refine ⟨B0, m, S, ρ, o, en, ?_⟩
  unfold sRaiseX at fin
  unfold cCons
  cases hr : e ρ S with
  | bad => rw [hr] at fin; exact fin.elim
  | exc x S1 =>
    rw [hr] at fin
    exact fun c' d' H' m' s' o' x' => fin c' d' σ H' m' s' o' (s'.env o en) x'
  | ok x S1 =>
    rw [hr] at fin
    cases x with
    | ref i => exact fin.elim
    | val d =>
      intro vs H1 m1 s1 o1 r1
      cases r1 with
      | cons q q2 =>
      cases q2
      refine ⟨_, rfl, fun dx hd => ?_⟩
      exact fin _ _ σ _ m1 (s1.trans (Step.new hd)) (o1.new hd) ((s1.trans (Step.new hd)).env o en) ⟨rfl, .inr ⟨dx, _, rfl, upd_same, o1.fresh hd, rfl, .cons (Rep.mono (Kp.new hd) q) .nil⟩⟩
end
end T3
namespace T3
open PySem PySem.Spec PyProof.Rows L2 HotX L2H
/-! ### defs called within a suite, told what the suite holds: p = the error (its address, its object) -/
abbrev SpE := (Addr × Obj) → Sp
structure FnE (P : Program) (w : World) (K : PySem.W.Frag) (mg : Str → Option Value) (base : Heap) (CX : CXT) (k : Nat) (f : Addr) (fd : FuncData) (ps : List Str) (sp : SpE) : Prop where
  len : ∀ p vs H Q E, sp p vs H Q E → vs.length = ps.length
  run : ∀ {A : Around} {outer : List Env} {s : Shared} {H : Hp} {args : Args} {us : List Value} {vs : List V} {Q : VK} {E : XK} {p : Addr × Obj}, RoomH k A → PinOk outer H s p → Env0 P w K mg base A outer s H →
    BindsTo s fd args (ps.zip us) → Vals vs us → sp p vs H Q E → codeAny (model P w) A (.call (.ref f) args) (CR CX outer P w H s Q E) s
theorem fnE_of {CX : CXT} {P : Program} {w : World} {K : PySem.W.Frag} {mg : Str → Option Value} {base : Heap} {k : Nat} {f : Addr} {name qual : Str} {params : Arguments} {body : List Stmt} {scope : Scope} {dV kV doc pm cdv ct oc : Value} {an od : Option Addr}
    {osl : Array (Option Value)} {N ps : List Str} {sp : SpE} (lk : K.lookup f = some ⟨oc, od, .func (PySem.W.fnOf name qual params body scope dV kV doc pm an cdv ct), osl⟩) (hcd : PySem.W.codeIn K cdv qual = true) (S : FnScope N ps scope)
    (len : ∀ p vs H Q E, sp p vs H Q E → vs.length = ps.length)
    (hb : ∀ (A : Around) (outer : List Env) (s : Shared) (H : Hp) (vs : List V) (Q : VK) (E : XK) (p : Addr × Obj), RoomH k (A.deeper (envOfC qual scope s.heap.objs.size f cdv)) → sp p vs H Q E →
      ∃ t, PSs (cxH CX P w K mg base N qual scope f cdv A outer s H E p) body t ∧ t { nx := fun _ H' => Q .non H', rt := Q } (L2.start N vs) H) :
    FnE P w K mg base CX (k + 1) f (PySem.W.fnOf name qual params body scope dV kV doc pm an cdv ct) ps sp where
  len := len
  run := fun {A outer s H args us vs Q E p} hr hpin e0 bind r hsp => by
    have kin : K.In s.heap := e0.mod.kin.keeps fun b o e => (e0.bs b o e).1
    have nol : s.heap.NoLimit := e0.mod.nolimit.keeps fun b o e => (e0.bs b o e).1
    have kinds : ∀ y ∈ ps.zip us, scope.names.lookup y.1 = some .local ∨ (scope.names.lookup y.1 = some .cell ∧ ((cellsFrom (s.heap.objs.size + 1) scope.names []).lookup y.1).isSome = true) := by
      rintro ⟨n, v⟩ hy
      rcases S.par n (List.of_mem_zip hy).1 with q | q
      · exact .inl q
      · exact .inr ⟨q, PySem.W.cellsFrom_some _ _ _ (.inl q)⟩
    refine codeAny_call_function hr.depth (kin _ _ lk) rfl S.co S.gen rfl (PySem.W.codeRec_of kin hcd) (bind _ _ _ _ (wpAny_newFunctionEnv_cells S.kind kinds fun env he s1 x => ?_))
    subst he
    obtain ⟨t, ht, hq⟩ := hb A outer s H vs Q E p (hr.deeper _) hsp
    have J0 : Inv (cxH CX P w K mg base N qual scope f cdv A outer s H E p) [] (L2.start N vs) H s1 := inv_startH S hpin e0 (len _ _ _ _ _ hsp) r x
    refine ⟨nol.keeps x.toInCall.keep, codeAny_func (wpAny_mono (ht.run [] s1 (L2.start N vs) H _ J0 hq) (fun fl s' hs => ?_) fun e s' hs => hs)⟩
    cases fl with
    | ret u =>
      obtain ⟨v, σ', H', J, rv, q⟩ := hs
      exact ⟨v, H', J.os, J.bare, J.base, J.hok, rv, q⟩
    | next =>
      obtain ⟨σ', H', J, q⟩ := hs
      exact ⟨V.non, H', J.os, J.bare, J.base, J.hok, rfl, q⟩
    | brk =>
      obtain ⟨_, _, _, q⟩ := hs
      exact q.elim
    | cont =>
      obtain ⟨_, _, _, q⟩ := hs
      exact q.elim
section
variable {X : Cx} {CX : CXT} {k : Nat} {f : Addr} {fd : FuncData} {ps : List Str} {sp : SpE} {E : L2.St → XK} {x : Str} {q pos : Pos} {e : Expr} {es : List Expr} {t : TA} {p : Addr × Obj}
theorem run_fnE {pins : List (Addr × Obj)} {σ : L2.St} {H : Hp} {s : Shared} {Q : VK} {us : List Value} {vs : List V} (F : FnE X.prog X.w X.K X.mg X.base CX k f fd ps sp) (hr : RoomH k X.A) (hp : p ∈ X.pn) (hb : Binds X.K fd ps []) (hx : PassesAt CX X σ (E σ))
    (I : Inv X pins σ H s) (r : Vals vs us) (h : sp p vs H Q (E σ)) : wpAny (model X.prog X.w) X.A (call (.ref f) us) (EP X pins σ Q) X.xe s := by
  have hl : us.length = ps.length := r.length.symm.trans (F.len _ _ _ _ _ h)
  have b := hb s us I.kIn (by rw [List.append_nil]; exact hl)
  rw [List.append_nil] at b
  have z := I.pin p (List.mem_append_left _ hp)
  have hpin : PinOk X.stack H s p := ⟨z.1, z.2.1, fun hm => (List.mem_cons.mp (I.stkSub p.1 hm)).elim z.2.2.1 z.2.2.2.1, z.2.2.2.2⟩
  refine wpAny_call (codeAny_mono (F.run hr hpin I.env0 b r h) fun res s' hq => ?_)
  match res, hq with
  | .error e, hq => exact hx pins H s e s' I hq
  | .ok (.ret u), hq => exact I.after hq
  | .ok .next, hq => exact hq.elim
  | .ok .brk, hq => exact hq.elim
  | .ok .cont, hq => exact hq.elim
/-- f(e, ..) within a suite -/
noncomputable def tCallE (p : Addr × Obj) (sp : SpE) (E : L2.St → XK) (t : TA) : TE := fun σ H Q => t σ H fun vs H1 => sp p vs H1 Q (E σ)
theorem pe_callE (F : FnE X.prog X.w X.K X.mg X.base CX k f fd ps sp) (hr : RoomH k X.A) (hp : p ∈ X.pn) (hg : Gl X x) (hm : X.mg x = some (.ref f)) (hk : PySem.W.keepIn X.K (.ref f) = true) (hb : Binds X.K fd ps []) (hx : ∀ σ, PassesAt CX X σ (E σ))
    (ha : PA X (e :: es) t) (hdb : (x == ("__debug__" : Str)) = false := by decide) (he : starEach (e :: es) X.env = (false, eval e X.env) :: starEach es X.env := by rfl) (hpl : (backTo pos (starEach es X.env)).any (·.1) = false := by rfl) :
    PE X (.Call (.Name x q) (e :: es) [] pos) (tCallE p sp E t) := ⟨fun pins s σ H Q I h =>
  wpAny_Call_Name_kw (ld_glob I hg hm (PySem.W.callWith_K (h₀ := X.base) I.ok.mod.kin hk (thn (ha.run pos pins s σ H _ I h) fun us s1 ⟨vs, H1, I1, r, q⟩ => ⟨I1.kIn, run_fnE F hr hp hb (hx σ) I1 r q⟩) he hpl) hdb)⟩
end
end T3
namespace T3
open PySem PySem.Spec PyProof.Rows L2
/-! ### isinstance(e, C), e.f where e is the error that a suite holds, with its dict -/
/-- the error p of the context X: its class D, its dict dd -/
structure HeldE (X : Cx) (p : Addr × Obj) (D dd : Addr) : Prop where
  pn : p ∈ X.pn
  cls : p.2.cls = .ref D
  dict : p.2.dict = some dd
  data : ∃ vs, p.2.data = .fields vs
theorem HeldE.inst {X : Cx} {p : Addr × Obj} {D dd : Addr} (h : HeldE X p D dd) {pins : List (Addr × Obj)} {σ : L2.St} {H : Hp} {s : Shared} (I : Inv X pins σ H s) {fs : List (Str × V)} (e : H dd = some (.xd fs)) :
    ∃ od, PySem.W.InstAt s.heap p.1 p.2 D (some od) ∧ (∀ n v, fs.lookup n = some v → ∃ u, PySem.W.lookIn n od = some (some u) ∧ RelV v u) := by
  have g := (I.pin p (List.mem_append_left _ h.pn)).1
  obtain ⟨mA, hns, hr⟩ := (I.hok dd _ e : ObjOk X.prog X.w H s.heap dd (.xd fs))
  obtain ⟨od, ho, hl⟩ := lookIn_ns hns
  obtain ⟨vs, hd⟩ := h.data
  refine ⟨od, ⟨g, h.cls, by unfold PySem.W.notCls; rw [hd] <;> rfl, by rw [h.dict]; exact ho⟩, fun n v l => ?_⟩
  obtain ⟨u, hu, ru⟩ := RelO.some_of (v := v) (o := mA n) (by rw [← l]; exact hr n)
  exact ⟨u, by rw [hl, hu], ru⟩
/-- what a class says so that its errors are asked and read -/
structure ClsE (K : PySem.W.Frag) (D : Addr) : Prop where
  xf : XfC K D
  cls : (PySem.W.clsIn K D).isSome = true
  ha : PySem.W.findIn K (.ref D) "__class__" = some (some (.builtin "object.__class__"))
  hn : PySem.W.specialIn K (.builtin "object.__class__") "__get__" = some (some (.builtin "getset_descriptor.__get__"))
  ht : PySem.W.takesIn K (.builtin "object.__class__") = some true
  hm : PySem.W.mroIn K D (.type "object") = some true
/-- the error's reading: its address in the slot, its dict told -/
theorem rep_held {K : PySem.W.Frag} {cl : ClT} {N : Addr → Prop} {H : Hp} {v : V} {ns : List Str} {ds : List D} (r : Rep K cl N H v (.ins 1000 ns ds)) : v = .ref (cl 1000) ∧ ∃ xs, H (cl 1001) = some (.xd (ns.zip xs)) ∧ ns.length = xs.length ∧ RepL K cl N H xs ds := by
  cases r with
  | ins t q =>
    rcases t with ⟨i, _⟩ | ⟨rfl, _, e, _, l⟩ | ⟨_, i, _⟩
    · exact absurd i (by decide)
    · exact ⟨rfl, _, e, l, q⟩
    · exact absurd i (by decide)
section
variable {X : Cx} {cl : ClT} {W : WX} {p : Addr × Obj} {D dd : Addr}
noncomputable def rIsX (K : PySem.W.Frag) (D a dd : Addr) : List V → Hp → VK → Prop := fun xs H Q => ∃ (c : V) (cv : Value) (b : Bool) (fs : List (Str × V)), xs = [.ref a, c] ∧ (∀ u, RelV c u → u = cv) ∧ H dd = some (.xd fs) ∧ PySem.W.kitOne K (.ref D) cv = some b ∧ Q (.bl b) H
theorem call_isX (hE : HeldE X p D dd) (C : ClsE X.K D) : CallR X (.builtin "isinstance") (rIsX X.K D p.1 dd) := by
  rintro pins s σ H xs us Q I r ⟨c, cv, b, fs, rfl, hcv, e, hk, q⟩
  match r with
  | .cons rx (.cons rt .nil) =>
    cases rx
    have ec := hcv _ rt
    subst ec
    obtain ⟨od, J, _⟩ := hE.inst I e
    exact PySem.W.kia_one (PySem.W.kitx_exc C.cls C.xf.ga C.xf.gg C.xf.exC C.ha C.hn C.ht C.hm) I.kIn J hk (fun z => nomatch z) fun tk => ⟨.bl b, H, I.kept (t' := tk) fun _ _ z => z, rfl, q⟩
/-- isinstance(e, T), e the held error: b is what its class says -/
noncomputable def cIsX (c : CE) (b : Bool) : CE := fun ρ S => (c ρ S).bind fun x S1 => match x with
  | .val (.ins 1000 _ _) => .ok (.val (.bl b)) S1
  | _ => .bad
theorem pm_isX {x : Str} {e : Expr} {c : CE} {b : Bool} {t : V} {cv : Value} {p1 q pos : Pos} (hE : HeldE X p D dd) (C : ClsE X.K D) (h0 : cl 1000 = p.1) (h1 : cl 1001 = dd) (he : PE X e (tM X.K cl W c)) (ht : PE X (.Name x q) (tC t)) (hcv : ∀ u, RelV t u → u = cv) (hk : PySem.W.kitOne X.K (.ref D) cv = some b)
    (hm : X.mg "isinstance" = none) (hg : Gl X "isinstance" := by rfl) (hs : starEach [e, .Name x q] X.env = (false, eval e X.env) :: starEach [.Name x q] X.env := by rfl) (hs2 : starEach [.Name x q] X.env = (false, eval (.Name x q) X.env) :: starEach [] X.env := by rfl)
    (hpl : (backTo pos (starEach [.Name x q] X.env)).any (·.1) = false := by rfl) : PE X (.Call (.Name "isinstance" p1) [e, .Name x q] [] pos) (tM X.K cl W (cIsX c b)) := by
  have ha : PA X [e, .Name x q] (tCons (tM X.K cl W c) (tCons (tC t) tNil)) := pa_cons he (pa_cons ht pa_nil hs2) hs
  refine PE.imp (pe_callB (call_isX hE C) hg hm (by rfl) ha (by decide) (by decide) hs hpl) fun σ H Q h => ?_
  obtain ⟨B, m, S, ρ, o, en, fin⟩ := h
  refine ⟨B, m, S, ρ, o, en, Fin.bind fin fun y S1 v H1 m1 s1 o1 r1 f1 => ?_⟩
  split at f1
  · rename_i ns ds
    obtain ⟨rfl, xs, hx, _, _⟩ := rep_held r1
    rw [h1] at hx
    exact ⟨t, cv, b, _, by rw [h0], hcv, hx, hk, f1.here o1 (.bl _)⟩
  · exact f1.elim
theorem lookup_rep {K : PySem.W.Frag} {N : Addr → Prop} {H : Hp} {f : Str} {d : T3.D} : ∀ {ns : List Str} {xs : List V} {ds : List T3.D}, RepL K cl N H xs ds → (ns.zip ds).lookup f = some d → ∃ v, (ns.zip xs).lookup f = some v ∧ Rep K cl N H v d
  | [], _, _, _, h => by simp at h
  | _ :: _, _, _, .nil, h => by simp at h
  | n :: ns, _, _, .cons a r, h => by
    simp only [List.zip_cons_cons, List.lookup_cons] at h ⊢
    by_cases e : (f == n) = true
    · rw [e] at h ⊢
      injection h with h
      subst h
      exact ⟨_, rfl, a⟩
    · have e : (f == n) = false := by simpa using e
      rw [e] at h ⊢
      exact lookup_rep r h
/-- e.f, e the held error -/
noncomputable def cFldX (f : Str) (c : CE) : CE := fun ρ S => (c ρ S).bind fun x S1 => match x with
  | .val (.ins 1000 ns ds) => (match (ns.zip ds).lookup f with
    | some d => .ok (.val d) S1
    | none => .bad)
  | _ => .bad
theorem pm_fldX {f : Str} {e : Expr} {c : CE} {pos : Pos} (hE : HeldE X p D dd) (C : XfC X.K D) (hno : PySem.W.findIn X.K (.ref D) f = some none) (h0 : cl 1000 = p.1) (h1 : cl 1001 = dd) (he : PE X e (tM X.K cl W c)) (hb : attributeBase e f X.env (eval e X.env) = eval e X.env := by rfl) :
    PE X (.Attribute e f pos) (tM X.K cl W (cFldX f c)) := by
  let r : TE := fun σ H Q => tM X.K cl W c σ H fun x H1 => x = .ref p.1 ∧ ∃ (fs : List (Str × V)) (v : V), H1 dd = some (.xd fs) ∧ fs.lookup f = some v ∧ Q v H1
  have step : PE X (.Attribute e f pos) r := by
    refine ⟨fun pins s σ H Q I h => attr_of hb (thn (he.run pins s σ H _ I h) fun u s1 hh => ?_)⟩
    obtain ⟨x, H1, I1, rx, rfl, fs, v, ea, l, q⟩ := hh
    obtain rfl : u = Value.ref p.1 := rx
    obtain ⟨od, J, fl⟩ := hE.inst I1 ea
    obtain ⟨w, hw, rw'⟩ := fl f v l
    exact HandSPX.exc_get I1.kIn J C.ga C.gg C.exC (PySem.W.findObj_own C.hdC hno rfl hw) (handed_of rw') ⟨v, H1, I1.tok _, rw', q⟩
  refine PE.imp step fun σ H Q h => ?_
  obtain ⟨B, m, S, ρ, o, en, fin⟩ := h
  refine ⟨B, m, S, ρ, o, en, Fin.bind fin fun y S1 v H1 m1 s1 o1 r1 f1 => ?_⟩
  split at f1
  · rename_i ns ds
    obtain ⟨rfl, xs, hx, _, rl⟩ := rep_held r1
    rw [h1] at hx
    split at f1
    · rename_i d hd
      obtain ⟨w, hw, rw'⟩ := lookup_rep rl hd
      exact ⟨by rw [h0], _, w, hx, hw, f1.here o1 rw'⟩
    · exact f1.elim
  · exact f1.elim
end
end T3
/-! a lambda without parameters handed to a def: nothing of the state is lost -/
namespace T3
open PySem PySem.Spec PyProof.Rows L2 LamX
/-- all but the tables stays; nothing is lost -/
noncomputable def Ext3 (H H' : Hp) : Prop := ExtN H H' ∧ ∀ b, H b ≠ none → H' b ≠ none
theorem Ext3.refl (H : Hp) : Ext3 H H := ⟨ExtN.refl H, fun _ h => h⟩
section
variable {X : Cx} {pins : List (Addr × Obj)} {σ : L2.St} {H : Hp} {s : Shared}
theorem lam_make3 {T : List (Addr × Str)} {co P : Addr} {prs : Arguments} {bod : Expr} {scp : Scope} {pos : Pos} {E : Value → Shared → Prop} {Q : Value → Shared → Prop} (I : Inv X pins σ H s) (TB : TabB X.base X.mg co P) (hco : X.env.code = .ref co)
    (hin : (P, X.env.qual ++ "<lambda>") ∈ T) (one : ∀ p ∈ T, p.1 = P → p.2 = X.env.qual ++ "<lambda>") (tb : Tabs T H) (nodef : defaultsOf prs X.env = ([], [])) (free : ∀ y ∈ scp.names, y.2 = .free → ∃ c, X.env.cells.lookup y.1 = some c)
    (go : ∀ (f c' : Addr) (pm ctv : Value) (H1 : Hp) (s' : Shared), Inv X pins σ H1 s' → Ext3 H H1 → Tabs T H1 → s'.heap.get? f = some (PySem.W.kla_obj "<lambda>" (X.env.qual ++ "<lambda>") prs bod scp (cloFrom X.env.cells scp.names []) pm c' ctv) → H1 f = none → f ∉ frs X.stack →
      H1 c' = some (CodeO c' (X.env.qual ++ "<lambda>")) → Q (.ref f) s') : wpAny (model X.prog X.w) X.A (eval (.Lambda prs bod scp pos) X.env) Q E s := by
  obtain ⟨tri, atP, triok, known⟩ := tb _ hin
  refine PySem.W.kla_eval nodef ?_
  have bm : s.heap.BuiltinsAt X.mg P := TB.bm.keeps I.bk
  have getP : s.heap.get? P = some { cls := .none, data := .fields tri } := I.hok P _ atP
  have outside : ∀ f, s.heap.objs.size ≤ f → f ∉ frs X.stack := fun f hf hm => (List.mem_cons.mp (I.stkSub _ hm)).elim
    (fun e => Nat.lt_irrefl _ (Nat.lt_of_lt_of_le (e ▸ I.lt) hf)) fun e => I.nofs hf e
  cases found : codeAmong pos tri.toList with
  | some cv =>
    obtain ⟨c1, rfl, isC⟩ := known pos cv found
    refine PySem.W.kla_makeFunctionHit (mg := X.mg) (c := co) (P := P) (ps := tri) (closure_ok free) I.ok.glob (I.mod.glob.keeps I.bk) hco (TB.code.keeps I.bk) getP triok found bm fun ctv h1 tk kp sz => ?_
    have J : Inv X pins σ H { s with heap := h1.push (PySem.W.kla_obj "<lambda>" (X.env.qual ++ "<lambda>") prs bod scp (cloFrom X.env.cells scp.names []) ((X.mg "__name__").getD .none) c1 ctv), toks := tk } := I.kept fun b o e => Heap.get?_push_of_some _ (kp b o e)
    exact go h1.objs.size c1 ((X.mg "__name__").getD .none) ctv H _ J (Ext3.refl H) tb (Heap.get?_push_size _ rfl) (I.hok.fresh sz) (outside _ sz) isC
  | none =>
    refine PySem.W.kla_makeFunction (mg := X.mg) (c := co) (P := P) (ps := tri) (closure_ok free) I.ok.glob (I.mod.glob.keeps I.bk) hco (TB.code.keeps I.bk) getP triok found TB.gP bm fun c1 ctv h1 tk kp above below rec tab => ?_
    obtain ⟨c2, oc, vs, t, e2, g1, g2, g3⟩ := rec
    cases e2
    have sz : s.heap.objs.size ≤ h1.objs.size := Nat.le_trans above (Nat.le_of_lt below)
    have newC : H c1 = none := I.hok.fresh above
    have J := inv_table (t' := tk) (more := #[rawInt pos.line, rawInt pos.col, .ref c1]) (h' := h1.push (PySem.W.kla_obj "<lambda>" (X.env.qual ++ "<lambda>") prs bod scp (cloFrom X.env.cells scp.names []) ((X.mg "__name__").getD .none) c1 ctv)) I atP
      (fun b o ne e => Heap.get?_push_of_some _ (kp b o ne e)) (Heap.get?_push_of_some _ tab) above ⟨oc, vs, t, Heap.get?_push_of_some _ g1, g2, g3⟩
    have ext : ExtN H (upd (upd H P (.tbl (tri ++ #[rawInt pos.line, rawInt pos.col, .ref c1]))) c1 (CodeO c1 (X.env.qual ++ "<lambda>"))) := by
      intro b o e nt
      have n2 : b ≠ P := fun z => nt tri (Option.some.inj (e.symm.trans (z ▸ atP)))
      rw [upd_ne (ne_of_none e newC), upd_ne n2]
      exact e
    have live : ∀ b, H b ≠ none → upd (upd H P (.tbl (tri ++ #[rawInt pos.line, rawInt pos.col, .ref c1]))) c1 (CodeO c1 (X.env.qual ++ "<lambda>")) b ≠ none := fun b hb => by
      by_cases z1 : b = c1
      · rw [z1, upd_same]; exact fun q => by cases q
      · rw [upd_ne z1]
        by_cases z2 : b = P
        · rw [z2, upd_same]; exact fun q => by cases q
        · rw [upd_ne z2]; exact hb
    have split : (tri ++ #[rawInt pos.line, rawInt pos.col, .ref c1]).toList = tri.toList ++ [rawInt pos.line, rawInt pos.col, .ref c1] := by simp
    refine go h1.objs.size c1 ((X.mg "__name__").getD .none) ctv _ _ J ⟨ext, live⟩ (fun p hp => ?_) (Heap.get?_push_size _ rfl) ?_ (outside _ sz) upd_same
    · by_cases same : p.1 = P
      · rw [one p hp same, same]
        refine ⟨tri ++ #[rawInt pos.line, rawInt pos.col, .ref c1], by rw [upd_ne (ne_of_none atP newC), upd_same], by rw [split]; exact PySem.TriplesOk_snoc _ _ _ _ triok, fun p1 cv hcv => ?_⟩
        rw [split] at hcv
        rcases among_app _ triok hcv with z | z
        · obtain ⟨c0, q1, q2⟩ := known p1 cv z
          exact ⟨c0, q1, ext _ _ q2 codeO_ne⟩
        · exact ⟨c1, z, upd_same⟩
      · obtain ⟨tri2, b1, b2, b3⟩ := tb p hp
        refine ⟨tri2, by rw [upd_ne (ne_of_none b1 newC), upd_ne same]; exact b1, b2, fun p1 cv hcv => ?_⟩
        obtain ⟨c0, q1, q2⟩ := b3 p1 cv hcv
        exact ⟨c0, q1, ext _ _ q2 codeO_ne⟩
    · have w1 : h1.objs.size ≠ c1 := Nat.ne_of_gt below
      have w2 : h1.objs.size ≠ P := Nat.ne_of_gt (Nat.lt_of_lt_of_le (Heap.lt_size getP) sz)
      rw [upd_ne w1, upd_ne w2]
      exact I.hok.fresh sz
end
section
variable {X : Cx} {pins : List (Addr × Obj)} {σ : L2.St} {H : Hp} {s : Shared}
/-- the lambda called where it was handed to (the guards told) -/
theorem act3 {CXg : CXT} {Eg : XK} {Ng : List Str} {qg : Str} {sg : Scope} {g f c1 : Addr} {cdg pm ctv : Value} {prs : Arguments} {bod : Expr} {scp : Scope} {k i : Nat} {a : Str} {pn : List (Addr × Obj)} {xe : Value → Shared → Prop} {W : WX} {E : XK} {tb : TE} {p1 p2 : Pos}
    (I : Inv X pins σ H s) (L : LamS X.env.scope scp) (atf : s.heap.get? f = some (PySem.W.kla_obj "<lambda>" (X.env.qual ++ "<lambda>") prs bod scp (cloFrom X.env.cells scp.names []) pm c1 ctv)) (nof : H f = none) (frf : f ∉ frs X.stack)
    (nob : bindArgs (PySem.W.kla_fn "<lambda>" (X.env.qual ++ "<lambda>") prs bod scp (cloFrom X.env.cells scp.names []) pm (.ref c1) ctv) ⟨[], []⟩ = pure []) (gd : X.A.guards = some [])
    (tk : Takes ((cxOf CXg X.prog X.w X.K X.mg X.base Ng qg sg g cdg X.A X.stack s H Eg).tr pn xe) W) (hW : ∀ cls d σ1 H1, E cls d H1 → W cls d σ1 H1) (hr : Room (k + 1) (X.A.deeper (envOfC qg sg s.heap.objs.size g cdg)))
    (hbod : ∀ (A : Around) (outer : List Env) (s : Shared) (H : Hp), (A.deeper (lamEnv X scp s.heap.objs.size f c1)).guards = some [] → Room k (A.deeper (lamEnv X scp s.heap.objs.size f c1)) → PE (lamCx X A outer s H E scp f c1) bod tb)
    (hN : Ng[i]? = some a) (hv : Vis sg a) (hd : (a == ("__debug__" : Str)) = false := by decide) (hcd : (a == ("__classdict__" : Str)) = false := by decide) :
    PE ((cxOf CXg X.prog X.w X.K X.mg X.base Ng qg sg g cdg X.A X.stack s H Eg).tr pn xe) (.Call (.Name a p1) [] [] p2) (fun σZ HZ Q => σZ[i]? = some (some (.ref f)) ∧ HZ c1 = some (CodeO c1 (X.env.qual ++ "<lambda>")) ∧ tb σ HZ Q) := by
  refine ⟨fun pinsZ sZ σZ HZ Q IZ hh => ?_⟩
  obtain ⟨slot, isC, ht⟩ := hh
  refine wpAny_Call_Name_kw (thn ((pe_var (pos := p1) (i := i) hN hv hd hcd).run pinsZ sZ σZ HZ (fun v H1 => v = .ref f ∧ H1 = HZ) IZ ⟨.ref f, slot, rfl, rfl⟩) fun u s1 hh => ?_)
  obtain ⟨v, H1, I1, r1, rfl, rfl⟩ := hh
  obtain rfl : u = Value.ref f := r1
  have here : s1.heap.get? f = some (PySem.W.kla_obj "<lambda>" (X.env.qual ++ "<lambda>") prs bod scp (cloFrom X.env.cells scp.names []) pm c1 ctv) := I1.base.keep f _ atf nof frf (fun z => nomatch (show f ∈ ([] : List Addr) from z))
  refine PySem.W.callWith_F0 ⟨_, _, _, _, here⟩ ?_
  have un : Un (frs X.stack) [] H H1 s.heap s1.heap := I1.base
  obtain ⟨⟨oc, vs, t, g1, g2, g3⟩, _, _⟩ := I1.hok c1 _ isC
  have run : codeAny (model X.prog X.w) (X.A.deeper (envOfC qg sg s.heap.objs.size g cdg)) (.call (.ref f) ⟨[], []⟩) (CR (L2.CX X.prog X.w) (envOfC qg sg s.heap.objs.size g cdg :: X.stack) X.prog X.w H1 s1 Q E) s1 := by
    refine PySem.W.kla_callFunE hr.depth here rfl L.co L.gen rfl ⟨c1, oc, vs, t, rfl, g1, g2, g3⟩ ?_
    rw [nob]
    refine wpAny_pure (wpAny_newFunctionEnv (fun y hy => (L.own y hy).2) (fun y hy => absurd hy (by simp)) (fun h1 ns1 sb1 => ⟨I1.nolimit.fresh _ sb1, ?_⟩) L.kind)
    show codeAny _ _ (.expr bod (lamEnv X scp s1.heap.objs.size f c1)) _ _
    have kp : ∀ b o, s1.heap.get? b = some o → h1.get? b = some o := fun b o e => sb1.extBut b o (Nat.ne_of_lt (Heap.lt_size e)) (Heap.get?_push_of_some _ e)
    have J : Inv (lamCx X (X.A.deeper (envOfC qg sg s.heap.objs.size g cdg)) (envOfC qg sg s.heap.objs.size g cdg :: X.stack) s1 H1 E scp f c1) [] σ H1 { s1 with heap := h1, toks := s1.toks + ([] : List (Str × Value)).length } := lam_start2 I L I1.env0 hr.hd un ns1 kp
    refine PySem.W.kla_codeExpr (wpAny_mono ((hbod _ _ s1 H1 (guards_deeper (guards_deeper gd)) (hr.deeper _)).run [] _ _ H1 Q J ht) (fun v s2 hq => ?_) fun e s2 hq => hq)
    obtain ⟨w1, H2, J2, rv, q⟩ := hq
    exact ⟨w1, H2, J2.os, J2.bare, J2.base, J2.hok, rv, q⟩
  have pass : Passes (L2.CX X.prog X.w) ((cxOf CXg X.prog X.w X.K X.mg X.base Ng qg sg g cdg X.A X.stack s H Eg).tr pn xe) E := passes_call tk hW
  refine wpAny_call (codeAny_mono run fun r s2 hq => ?_)
  match r, hq with
  | .error e, hq => exact pass pinsZ σZ H1 s1 e s2 I1 hq
  | .ok (.ret u), hq => exact I1.after hq
  | .ok .next, hq => exact False.elim hq
  | .ok .brk, hq => exact False.elim hq
  | .ok .cont, hq => exact False.elim hq
end
noncomputable def tLam3 (T : List (Addr × Str)) (TT : (XK → Hp → VK → Prop) → Hp → VK → Prop) (t : XK → TE) : TE := fun σ H Q => Tabs T H ∧ ∀ H1, Ext3 H H1 → Tabs T H1 → TT (fun E H2 Q2 => t E σ H2 Q2) H1 Q
section
variable {X : Cx}
/-- x(lambda: bod) -/
theorem pe_lam3 {T : List (Addr × Str)} {TT : (XK → Hp → VK → Prop) → Hp → VK → Prop} {x a : Str} {g co P : Addr} {k : Nat} {pg : Arguments} {bg : List Stmt} {sg : Scope} {dV kV doc pm cdv ct oc : Value} {an od : Option Addr} {osl : Array (Option Value)} {Ng : List Str}
    {prs : Arguments} {bod : Expr} {scp : Scope} {t : XK → TE} {p lpos pos : Pos} (hg : Gl X x) (hm : X.mg x = some (.ref g)) (hk : PySem.W.keepIn X.K (.ref g) = true)
    (lk : X.K.lookup g = some ⟨oc, od, .func (PySem.W.fnOf x x pg bg sg dV kV doc pm an cdv ct), osl⟩) (hcg : PySem.W.codeIn X.K cdv x = true) (hb : L2.Binds X.K (PySem.W.fnOf x x pg bg sg dV kV doc pm an cdv ct) [a] []) (Sg : FnScope Ng [a] sg) (hNg : Ng[0]? = some a) (hva : Vis sg a)
    (hG : GivesTo X Ng x sg g cdv bg a (X.env.qual ++ "<lambda>") TT) (TB : TabB X.base X.mg co P) (hcode : X.env.code = .ref co) (hin : (P, X.env.qual ++ "<lambda>") ∈ T) (one : ∀ p ∈ T, p.1 = P → p.2 = X.env.qual ++ "<lambda>") (hr : Room (k + 2) X.A)
    (L : LamS X.env.scope scp) (nodef : defaultsOf prs X.env = ([], [])) (nobind : ∀ (q : Str) (cl : List (Str × Addr)) (pm cv ctv : Value), bindArgs (PySem.W.kla_fn "<lambda>" q prs bod scp cl pm cv ctv) ⟨[], []⟩ = pure [])
    (gd : X.A.guards = some []) (hbod : ∀ (A : Around) (outer : List Env) (s : Shared) (H : Hp) (E : XK) (f c' : Addr), (A.deeper (lamEnv X scp s.heap.objs.size f c')).guards = some [] → Room k (A.deeper (lamEnv X scp s.heap.objs.size f c')) → PE (lamCx X A outer s H E scp f c') bod (t E))
    (hdb : (x == ("__debug__" : Str)) = false := by decide) (hd : (a == ("__debug__" : Str)) = false := by decide) (hcd : (a == ("__classdict__" : Str)) = false := by decide) :
    PE X (.Call (.Name x p) [.Lambda prs bod scp lpos] [] pos) (tLam3 T TT t) := by
  refine ⟨fun pins s σ H Q I hh => wpAny_Call_Name_kw (ld_glob I hg hm (PySem.W.callWith_K (h₀ := X.base) I.ok.mod.kin hk ?_ (by rfl) (by rfl)) hdb)⟩
  obtain ⟨tb, hh⟩ := hh
  show wpAny _ _ (spliced ((false, eval (.Lambda prs bod scp lpos) X.env) :: backTo pos (starEach [] X.env))) _ _ s
  refine Calls.spliced_cons (lam_make3 I TB hcode hin one tb nodef (L.has I.ok) fun f c1 pm1 ctv H1 s1 I1 e1 t1 atf nof frf isC => Calls.spliced_nil ⟨I1.kIn, ?_⟩)
  have run : codeAny (model X.prog X.w) X.A (.call (.ref g) ⟨[.ref f], []⟩) (CR C8.CX0 X.stack X.prog X.w H1 s1 Q C8.E0) s1 := run_ofS (N := Ng) (ps := [a]) (us := [.ref f]) (vs := [.ref f]) lk hcg Sg hr I1.env0 (hb s1 [.ref f] I1.kIn rfl) (.cons rfl .nil) rfl fun hr1 => by
    obtain ⟨t2, ht2, hq2⟩ := hG f c1 s1 H1 Q (fun E H2 Q2 => t E σ H2 Q2) (fun W pn xe E p1 p2 tk hW => act3 (i := 0) I1 L atf nof frf (nobind _ _ _ _ _) gd tk hW hr1 (fun A outer s H g2 hr2 => hbod A outer s H E f c1 g2 hr2) hNg hva hd hcd) isC (hh H1 e1 t1)
    exact ⟨t2, ht2.nox, hq2⟩
  refine wpAny_call (codeAny_mono run fun r s2 hq => ?_)
  match r, hq with
  | .error e, hq => exact (show False from hq).elim
  | .ok (.ret u), hq => exact I1.after hq
  | .ok .next, hq => exact False.elim hq
  | .ok .brk, hq => exact False.elim hq
  | .ok .cont, hq => exact False.elim hq
end
end T3
/-! try .. except (A, B, C) as n: all that is raised is caught -/
namespace T3
open PySem PySem.Spec PyProof.Rows L2
theorem fly_keeps {B : Heap} {l : List Env} {a : Addr} {Z : Obj → Prop} {h h' : Heap} (k : ∀ b o, h.get? b = some o → h'.get? b = some o) (f : HandSPX.FlyingZ B l a Z h) : HandSPX.FlyingZ B l a Z h' := by
  obtain ⟨f1, f2, f3, oe, vs, T, oT, ts, g1, g2, g3, g4, g5, g6, g7, g8, g9⟩ := f
  exact ⟨fun b o e => k b o (f1 b o e), f2, Heap.FunFrames.of_keeps (fun b o e _ => ⟨o, k b o e, rfl⟩) f3, oe, vs, T, oT, ts, k _ _ g1, g2, g3, g4, g5, g6, k _ _ g7, g8, g9⟩
/-- what the clause wishes of an exception of the body: it is of one of the classes, the suite goes on from there -/
noncomputable def wAs3 (K : PySem.W.Frag) (c1 c2 c3 : Value) (i : Nat) (ts : Addr → Value → Option Addr → TS) (D : Ends) : WX := fun cls d σ H =>
  PySem.W.exmAny K cls [c1, c2, c3] = some true ∧ ∀ a, H a = none → ts a cls d { nx := fun σ1 H1 => D.nx (σ1.set i none) H1, rt := D.rt, bk := fun σ1 H1 => D.bk (σ1.set i none) H1, ct := fun σ1 H1 => D.ct (σ1.set i none) H1 } (σ.set i (some (.ref a))) H
section
variable {X : Cx} {x1 x2 x3 n : Str} {c1 c2 c3 : Value} {i kk : Nat} {body suite : List Stmt} {b0 : Stmt} {q1 q2 q3 np pos hpos : Pos} {tb : WX → TS} {ts : Addr → Value → Option Addr → TS}
/-- a class's name, read within the test of a clause -/
theorem test_name {a : Addr} {pn : List (Addr × Obj)} {pins : List (Addr × Obj)} {σ : L2.St} {H : Hp} {s : Shared} {x : Str} {c : Value} {q : Pos} {Q : Value → Shared → Prop} {E : Value → Shared → Prop} (hn : Names X x c) (J : Inv (X.suite a pn) pins σ H s) (h : Q c s) :
    wpAny (model X.prog X.w) (X.A.mark (some (.ref a))) (eval (.Name x q) X.env) Q E s := by
  obtain ⟨g, nd, m | ⟨m, v, ne⟩⟩ := hn
  · exact ld_glob (X := X.suite a pn) J g m h nd
  · exact ld_blt (X := X.suite a pn) J g m v h ne nd
theorem ps_try_as3 (stk : X.stack = X.env :: X.outer) (fr : X.env.frame = some X.env.locals) (nd : X.N.Nodup) (at_i : X.N[i]? = some n) (loc : X.env.kindOf n = some .local) (n1 : Names X x1 c1) (n2 : Names X x2 c2) (n3 : Names X x3 c3)
    (hbody : ∀ (W : WX) (pn : List (Addr × Obj)) (xe : Value → Shared → Prop), Takes (X.tr pn xe) W → PassesOwn (model X.prog X.w) X.A X.env xe → PSs (X.tr pn xe) body (tb W))
    (hsuite : ∀ (a : Addr) (oe : Obj) (cls : Value) (d : Option Addr) (pn : List (Addr × Obj)), Zc cls d oe → (∃ vs, oe.data = .fields vs) → PSs (X.suite a ((a, oe) :: pn)) (b0 :: suite) (ts a cls d))
    (e1 : starEach [.Name x1 q1, .Name x2 q2, .Name x3 q3] X.env = [(false, eval (.Name x1 q1) X.env), (false, eval (.Name x2 q2) X.env), (false, eval (.Name x3 q3) X.env)] := by rfl) :
    PS X (.Try body [.ExceptHandler (some (.Tuple [.Name x1 q1, .Name x2 q2, .Name x3 q3] kk np)) (some n) (b0 :: suite) hpos] [] [] pos) (fun D σ H => tb (wAs3 X.K c1 c2 c3 i ts D) D σ H) := by
  refine ⟨fun pins s σ H D I h => ?_⟩
  have ok := I.ok
  have frames : X.A.frames = some (X.env :: X.outer) := ok.frames.trans (by rw [stk])
  refine wpAny_Try_except ?_
  refine wpAny_mono ((hbody (wAs3 X.K c1 c2 c3 i ts D) (X.pn ++ pins) (fun e sA => wpAny (model X.prog X.w) X.A (noteFrame e X.env) (fun _ sB => wpAny (model X.prog X.w) X.A (setFlight e none) (fun _ sC =>
    wpAny (model X.prog X.w) X.A (handleBy e X.env [.ExceptHandler (some (.Tuple [.Name x1 q1, .Name x2 q2, .Name x3 q3] kk np)) (some n) (b0 :: suite) hpos]) (SP X pins D) X.xe sC) X.xe sB) X.xe sA) (fun u sX xx => ?_) PassesOwn.looking).run [] s σ H D (I.toTry _) h)
    (fun f sE hsp => ?_) (fun e sE he => he)
  · obtain ⟨a, B, sI, pins1, σ1, H1, cls, d, rfl, J0, nb, up, sky, na, os, ag, hx, hgo⟩ := xx
    have J : Inv X pins σ1 H1 sI := J0.ofTry ok
    have sky1 : Sky B (X.env :: X.outer) a (Zc cls d) X.env.locals sX.heap := stk ▸ sky
    show wpAny (model X.prog X.w) X.A (noteFrame (.ref a) X.env) _ _ _
    refine Sky.land Zc.steady frames fr sky1 fun h3 fl3 up3 => ?_
    have J3 : Inv X pins σ1 H1 { sX with heap := h3 } := J.landed nb fl3.1 (up.trans up3) os ag
    obtain ⟨oe3, vs3, g3, z3, d3⟩ := fl3.there
    have nofr : a ∉ frs (X.env :: X.outer) := fun hm => by
      obtain ⟨_, o, e, nf⟩ := fl3.2.2.1.mem hm
      rw [g3] at e
      cases e
      exact nf _ d3
    have nL : a ≠ X.env.locals := fun z => nofr (List.mem_filterMap.mpr ⟨X.env, List.mem_cons_self, by rw [fr, z]⟩)
    have nF : a ∉ X.fs := fun hm => by
      obtain ⟨e, he, q⟩ := List.mem_filterMap.mp hm
      exact nofr (List.mem_filterMap.mpr ⟨e, List.mem_cons_of_mem _ he, q⟩)
    have S3 := J3.suite g3 d3 na nL nF
    refine wpAny_handleBy_cons (codeAny_handlers_test ?_) (by intro q; cases q)
    have LT : PySem.W.Looks (model X.prog X.w) h3 (typeOf (.ref a)) cls := fun A Q E s k q => wpAny_typeOf_ref (k _ _ g3) (by rw [z3.1]; exact q)
    refine PySem.wpAny_Tuple_spliced ?_
    rw [e1]
    show wpAny _ _ (spliced [(false, eval (.Name x1 q1) X.env), (false, eval (.Name x2 q2) X.env), (false, eval (.Name x3 q3) X.env)]) _ _ _
    refine Calls.spliced_cons (test_name n1 S3 (Calls.spliced_cons (test_name n2 S3 (Calls.spliced_cons (test_name n3 S3 (Calls.spliced_nil ⟨by show 3 ≤ sizeLine; decide, ?_⟩))))))
    have kt : ∀ b o, h3.get? b = some o → (h3.push { cls := .type "tuple", data := .seq [c1, c2, c3].toArray }).get? b = some o := fun b o e => Heap.get?_push_of_some _ e
    have LM := PySem.W.exm_tup3 (M := model X.prog X.w) (tp := h3.objs.size) (K := X.K) (h := h3.push { cls := .type "tuple", data := .seq [c1, c2, c3].toArray }) (fun b o e => kt b o (J3.kIn b o e)) (LT.keeps kt) (Heap.get?_push_size _ rfl) hx
    refine LM.here ?_
    refine codeAny_handlers_suite_as ?_
    have fl3' := fly_keeps kt fl3
    refine HandSPX.lands_againZ fl3' fun h4 fl4 up4 => ?_
    have upt : sX.heap.UpToSlots (h3.push { cls := .type "tuple", data := .seq [c1, c2, c3].toArray }) := up3.trans fun b o e _ => ⟨o.slots, kt b o e⟩
    have J4 : Inv X pins σ1 H1 { sX with heap := h4 } := J.landed nb fl4.1 ((up.trans upt).trans up4) os ag
    obtain ⟨oe4, vs4, g4, z4, d4⟩ := fl4.there
    have S4 := J4.suite g4 d4 na nL nF
    refine store_ok (X := X.suite a ((a, oe4) :: (X.pn ++ pins))) (v := .ref a) S4 nd at_i (.inl loc) rfl (fun s5 S5 => ?_) (.inr loc)
    refine wpAny_mono ((hsuite a oe4 cls d (X.pn ++ pins) z4 ⟨_, d4⟩).run [] s5 _ H1 _ S5 (hgo a na)) (fun f s6 hsp => ?_) (fun _ _ z => False.elim z)
    have leave : ∀ {σ6 : L2.St} {H6 : Hp} {Q : Shared → Prop}, Inv (X.suite a ((a, oe4) :: (X.pn ++ pins))) [] σ6 H6 s6 → (∀ s7, Inv X pins (σ6.set i none) H6 s7 → Q s7) → wpAny (model X.prog X.w) X.A (do bindName X.env n .none; unbindBehindTheSuite X.env n hpos) (fun _ s7 => Q s7) X.xe s6 :=
      fun S6 hq => gone_ok (S6.unsuite ok) nd at_i loc hq
    match f, hsp with
    | .ret u, hsp => exact (let ⟨v6, σ6, H6, S6, r6, q6⟩ := hsp; leave S6 fun s7 J7 => ⟨_, _, _, J7, r6, q6⟩)
    | .next, hsp => exact (let ⟨σ6, H6, S6, q6⟩ := hsp; leave S6 fun s7 J7 => ⟨_, _, J7, q6⟩)
    | .brk, hsp => exact (let ⟨σ6, H6, S6, q6⟩ := hsp; leave S6 fun s7 J7 => ⟨_, _, J7, q6⟩)
    | .cont, hsp => exact (let ⟨σ6, H6, S6, q6⟩ := hsp; leave S6 fun s7 J7 => ⟨_, _, J7, q6⟩)
  · match f, hsp with
    | .next, hsp => exact (let ⟨σ1, H1, J1, q⟩ := hsp; wpAny_execs_nil ⟨σ1, H1, J1.ofTry ok, q⟩)
    | .brk, hsp => exact (let ⟨σ1, H1, J1, q⟩ := hsp; ⟨σ1, H1, J1.ofTry ok, q⟩)
    | .cont, hsp => exact (let ⟨σ1, H1, J1, q⟩ := hsp; ⟨σ1, H1, J1.ofTry ok, q⟩)
    | .ret u, hsp => exact (let ⟨v, σ1, H1, J1, r, q⟩ := hsp; ⟨v, σ1, H1, J1.ofTry ok, r, q⟩)
end
end T3
/-! xs.count(True) -/
namespace T3
open PySem PySem.Spec PyProof.Rows L2
section
variable {X : Cx} {cl : ClT} {W : WX}
theorem plain_bools : ∀ bs : List Bool, PyData.plainAll (bs.map PyData.bool) = true
  | [] => rfl
  | b :: r => by
    show (PyData.plain (.bool b) && PyData.plainAll (r.map PyData.bool)) = true
    rw [plain_bools r]
    rfl
theorem reads_bools {h : Heap} : ∀ {bs : List Bool} {us : List Value}, Vals (bs.map V.bl) us → ∃ as, ReadsAll h us (bs.map PyData.bool) as
  | [], _, .nil => ⟨_, .nil⟩
  | b :: r, u :: us, .cons e t => by
    have e : u = Value.bool b := e
    subst e
    obtain ⟨as, q⟩ := reads_bools t
    exact ⟨_, .cons (.bool b) q⟩
theorem depth_bools : ∀ bs : List Bool, PyData.depthAll (bs.map PyData.bool) = 0
  | [] => rfl
  | b :: r => by
    show max (PyData.depth (.bool b)) (PyData.depthAll (r.map PyData.bool)) = 0
    rw [depth_bools r]
    rfl
noncomputable def rLCntB (K : PySem.W.Frag) : V → List V → Hp → VK → Prop := fun x xs H Q => ∃ (a : Addr) (bs : List Bool) (b : Bool), x = .ref a ∧ xs = [.bl b] ∧ SqL K H a (bs.map V.bl) ∧ Q (.int (bs.countP (· == b) : Nat)) H
theorem mt_lcountB (hu : X.A.units + 65 < cLine) : MtR X "list.count" (rLCntB X.K) := by
  rintro pins s σ H x xs v us Q I rx rxs ⟨a, bs, b, rfl, rfl, hq, q⟩
  cases rx
  match rxs with
  | .cons (b := u) ry .nil =>
  have ry : u = Value.bool b := ry
  subst ry
  obtain ⟨its, rv, pl, hz⟩ := I.list hq
  obtain ⟨as, rd⟩ := reads_bools (h := s.heap) rv
  refine PySem.SeqAt.count_list_data (vs := its.toArray) (xs := bs.map PyData.bool) (d := .bool b) pl.isList rd (.bool b) (plain_bools bs) rfl (by rw [depth_bools]; simp; omega) ?_
  rw [List.countP_map]
  exact ⟨.int (bs.countP (· == b) : Nat), H, I.tok _, ⟨_, rfl⟩, q⟩
/-- the bools in a list -/
noncomputable def fLCnt (x : A) (xs : List A) (S : Store) : Res := match asL S x, xs with
  | some ds, [.val (.bl b)] => (match boolsOf ds with
    | some bs => .ok (.val (.int (bs.countP (· == b) : Nat))) S
    | none => .bad)
  | _, _ => .bad
theorem ok_lcnt : MtOk X.K cl (rLCntB X.K) fLCnt := by
  intro B H m S σ W v x vs xs Q o r rs h
  unfold fLCnt at h
  split at h
  · rename_i ds b hd
    split at h
    · rename_i bs hb
      obtain ⟨a, ys, rfl, q, rl⟩ := asL_ok o r hd
      obtain ⟨w, rfl, r1⟩ := one_arg rs
      cases r1
      exact ⟨a, bs, b, rfl, rfl, boolsOf_ok rl hb ▸ q, h.here o (.int _)⟩
    · exact h.elim
  · exact h.elim
theorem pm_lcount {o e : Expr} {c ce : CE} {apos cpos : Pos} (hu : X.A.units + 65 < cLine) (ho : PE X o (tM X.K cl W c)) (ha : PE X e (tM X.K cl W ce)) (hs1 : starEach [e] X.env = (false, eval e X.env) :: starEach [] X.env := by rfl)
    (hbase : attributeBase o "count" X.env (eval o X.env) = eval o X.env := by rfl) (hfew : ((backTo cpos (starEach [e] X.env)).all (fun x => !x.1) && (backToKw cpos (keywordEach [] X.env)).all (fun x => x.1.isSome)
      && decide ([e].length + ([] : List Keyword).length + (if ([] : List Keyword).isEmpty then 0 else 1) < 30)) = true := by rfl) (hline : (apos.endLine == cpos.line) = true := by rfl) (hplain : (backTo cpos (starEach [] X.env)).any (·.1) = false := by rfl) :
    PE X (.Call (.Attribute o "count" apos) [e] [] cpos) (tM X.K cl W (cMt tyL fLCnt c (cCons ce cNil))) :=
  PE.imp (pe_bm PySem.F.plainAttrs_list PySem.F.slot_list_count PySem.F.type_list_count (mt_lcountB hu) ho (pm_cons ha pm_nil hs1) hbase hfew hline hs1 hplain) fun _ _ _ h => tBM_ok ty_list ok_lcnt h
end
section
variable {S : Store} {ds : List D} {b : Bool}
@[simp] theorem lcnt_lst : fLCnt (.val (.lst ds)) [.val (.bl b)] S = (match boolsOf ds with | some bs => .ok (.val (.int (bs.countP (· == b) : Nat))) S | none => .bad) := rfl
end
end T3
/-! repr of dicts of texts to ints -/
namespace T3
open PySem PySem.Spec PyProof.Rows L2
section
variable {X : Cx} {cl : ClT} {W : WX}
abbrev siK (kvs : List (Str × Int)) : List (Key × V) := kvs.map fun kv => ((Sum.inr kv.1 : Key), V.int kv.2)
abbrev siP (kvs : List (Str × Int)) : PyData := .dict (kvs.map fun kv => (.str kv.1, .int kv.2))
theorem si_reads {h : Heap} {P : Program} {w : World} : ∀ {kvs : List (Str × Int)} {vs : List (Key × Value)} {es : List DictEntry}, KV (siK kvs) vs → Pairs (mixKind P w) es vs →
    ReadsAll h (es.map (·.key)) (kvs.map fun kv => .str kv.1) [] ∧ ReadsAll h (es.map (·.val)) (kvs.map fun kv => .int kv.2) []
  | [], _, _, .nil, .nil => ⟨.nil, .nil⟩
  | (k, i) :: r, _, [], h, p => by cases p; cases h
  | (k, i) :: r, _, e :: es, .cons ⟨h1, h2⟩ t, .cons p1 p2 q => by
    obtain ⟨a, b⟩ := si_reads t q
    rw [← h1] at p1
    obtain ⟨tk, hk⟩ : ∃ tk, e.key = .str k tk := by
      have p1 : Value.isStrOf k e.key = true := p1
      unfold Value.isStrOf at p1
      cases hx : e.key with
      | str x t =>
        rw [hx] at p1
        exact ⟨t, by rw [show x = k from by simpa using p1]⟩
      | _ => rw [hx] at p1; cases p1
    obtain ⟨ti, hi⟩ : ∃ ti, e.val = .int i ti := by
      obtain ⟨ti, h2⟩ := h2
      exact ⟨ti, by rw [p2]; exact h2⟩
    refine ⟨?_, ?_⟩
    · rw [List.map_cons, List.map_cons, hk]
      exact .cons (as := []) (.str k tk) a
    · rw [List.map_cons, List.map_cons, hi]
      exact .cons (as := []) (.int i ti) b
noncomputable def rReprS : List V → Hp → VK → Prop := fun vs H Q => ∃ (a : Addr) (kvs : List (Str × Int)), vs = [.ref a] ∧ H a = some (.dK (siK kvs)) ∧ (siP kvs).showable = true ∧ (siP kvs).depth ≤ 60 ∧ (siP kvs).shown.length ≤ sizeLine ∧ Q (.str (siP kvs).shown) H
theorem cr_reprS (g : X.A.guards = some []) (hu : X.A.units + 70 < cLine) : CallR X (.builtin "repr") rReprS := by
  intro pins s σ H xs us Q I r h
  obtain ⟨a, kvs, rfl, hd, hs, hdp, hz, q⟩ := h
  cases r with
  | @cons _ u _ _ r1 r2 =>
    cases r2
    cases r1
    obtain ⟨_, hsm, vs, kv, o, es, ep, e1, e2, e3, _, e5, _⟩ := dk_of I.hok hd
    obtain ⟨ra, rb⟩ := si_reads (h := s.heap) kv e5
    have rd : Reads s.heap (.ref a) (siP kvs) (a :: [] ++ []) := by
      refine .dict e1 e2.1 e3 ?_ ?_
      · rw [List.map_map]; exact ra
      · rw [List.map_map]; exact rb
    exact repr_of_reads' rd hs (fun _ z => by
      simp at z
      rw [← z] at hsm
      simp at hsm) g (by omega) (fun _ _ e => e) (fun h' t tk hk => ⟨.str _, H, I.kept (h' := h') (t' := tk) hk, ⟨_, rfl⟩, q⟩) hz
noncomputable def strsK : List Key → Option (List Str)
  | [] => some []
  | .inr s :: r => (strsK r).map (s :: ·)
  | _ => none
theorem strsK_ok : ∀ {ks : List Key} {ss : List Str}, strsK ks = some ss → ks = ss.map Sum.inr
  | [], _, h => by cases h; rfl
  | .inr s :: r, ss, h => by
    simp only [strsK, Option.map_eq_some_iff] at h
    obtain ⟨t, ht, rfl⟩ := h
    rw [strsK_ok ht]
    rfl
/-- repr, of a dict of texts to ints too -/
noncomputable def fReprD : List A → Store → Res
  | [.val (.dic ks ds)], S => (match strsK ks, intsOf ds with
    | some ss, some is => if ss.length == is.length && (siP (ss.zip is)).showable && decide ((siP (ss.zip is)).depth ≤ 60) && szOk (siP (ss.zip is)).shown.length then .ok (.val (.str (siP (ss.zip is)).shown)) S else .bad
    | _, _ => .bad)
  | xs, S => fRepr xs S
theorem zip_si : ∀ (ss : List Str) (is : List Int), (ss.map (Sum.inr : Str → Key)).zip (is.map V.int) = siK (ss.zip is)
  | [], _ => rfl
  | _ :: _, [] => rfl
  | s :: r, i :: t => congrArg (((Sum.inr s : Key), V.int i) :: ·) (zip_si r t)
theorem cr_reprD (g : X.A.guards = some []) (hu : X.A.units + 70 < cLine) : CallR X (.builtin "repr") (fun vs H Q => rRepr X.K vs H Q ∨ rReprS vs H Q) := CallR.or (cr_repr g hu) (cr_reprS g hu)
theorem ok_reprD : CaOk X.K cl (fun vs H Q => rRepr X.K vs H Q ∨ rReprS vs H Q) fReprD := by
  intro B H m S σ W vs xs Q o r h
  unfold fReprD at h
  split at h
  · rename_i ks ds S
    obtain ⟨v, rfl, r1⟩ := one_arg r
    split at h
    · rename_i ss is hk hi
      split at h
      · rename_i hz
        simp only [Bool.and_eq_true, decide_eq_true_eq] at hz
        cases r1 with
        | @dic a _ xs _ h1 n l r2 =>
          have e1 := strsK_ok hk
          have e2 := intsOf_ok r2 hi
          subst e1 e2
          rw [zip_si] at h1
          exact .inr ⟨a, ss.zip is, rfl, h1, hz.1.1.2, hz.1.2, szOk_line hz.2, h.here o (.str _)⟩
      · exact h.elim
    · exact h.elim
  · exact .inl (ok_repr o r h)
end
end T3
/-! what a call returns, or the word of its error: _law_told(lambda: ..) -/
namespace T3
open PySem PySem.Spec PyProof.Rows L2 LamX L2H
/-! ### defs told the error that a suite holds -/
/-- the reading within a suite: the held error's address, its dict's -/
noncomputable def clE (T : List (Addr × Str)) (a : Addr) (dd : Addr) : ClT := ⟨fun n => if n = 1000 then a else if n = 1001 then dd else 0, T⟩
structure InfoE (D dd : Addr) (p : Addr × Obj) : Prop where
  cls : p.2.cls = .ref D
  dict : p.2.dict = some dd
  data : ∃ vs, p.2.data = .fields vs
noncomputable def spE (K : PySem.W.Frag) (T : List (Addr × Str)) (D : Addr) (n : Nat) (f : Fn) : SpE := fun p vs H Q E => ∃ dd, InfoE D dd p ∧ spF K (clE T p.1 dd) n f vs H Q E
theorem fnE_M {P : Program} {w : World} {K : PySem.W.Frag} {mg : Str → Option Value} {base : Heap} {CX : CXT} {D : Addr} {x qual : Str} {st : Stmt} {f : Addr} {fd : FuncData} {N ps : List Str} {k : Nat} {b : CS} {T : List (Addr × Str)} (F : Fun K x qual st f fd) (S : FnScope N ps (defScope st))
    (body : ∀ (cdv : Value) (A : Around) (outer : List Env) (s : Shared) (H : Hp) (E : XK) (p : Addr × Obj) (dd : Addr), RoomH k (A.deeper (envOfC qual (defScope st) s.heap.objs.size f cdv)) → HeldE (cxH CX P w K mg base N qual (defScope st) f cdv A outer s H E p) p D dd →
      PSs (cxH CX P w K mg base N qual (defScope st) f cdv A outer s H E p) (defBody st) (tMS K (clE T p.1 dd) (fun c d _ H => E c d H) b)) :
    FnE P w K mg base CX (k + 1) f fd ps (spE K T D ps.length (runF N.length b)) := by
  obtain ⟨oc, od, kV, doc, pm, an, cdv, ct, osl, rfl, lk, hcd⟩ := F.ex
  refine fnE_of lk hcd S (fun p vs H Q E h => by obtain ⟨_, _, h⟩ := h; exact h.1) fun A outer s H vs Q E p hr hsp => ?_
  obtain ⟨dd, i, hl, B, m, S1, xs, o, r, fin⟩ := hsp
  have hpl : ps.length ≤ N.length := by have := congrArg List.length S.pre; rw [List.length_take] at this; omega
  refine ⟨_, body cdv A outer s H E p dd hr ⟨List.mem_singleton.mpr rfl, i.cls, i.dict, i.data⟩, ⟨B, m, S1, _, o, env_start r (by omega), ?_⟩⟩
  unfold runF at fin
  cases hb : b (xs.map some ++ List.replicate (N.length - xs.length) none) S1 with
  | bad => rw [hb] at fin; exact fin
  | bk _ _ => rw [hb] at fin; exact fin.elim
  | ct _ _ => rw [hb] at fin; exact fin.elim
  | nx ρ S' => rw [hb] at fin; exact fun σ H' m' s' o' e' => fin V.non H' m' s' o' .non
  | rt x S' => rw [hb] at fin; exact fun v H' m' s' o' r' => fin v H' m' s' o' r'
  | exc e ρ S' => rw [hb] at fin; exact fun c d σ H' m' s' o' e' x' => fin c d H' m' s' o' x'
theorem tML_mono {K : PySem.W.Frag} {cl : ClT} {W : WX} {c : CA} {σ : L2.St} {H : Hp} {Q Q' : List V → Hp → Prop} (h : tML K cl W c σ H Q) (k : ∀ vs H, Q vs H → Q' vs H) : tML K cl W c σ H Q' := by
  obtain ⟨B, m, S, ρ, o, e, fin⟩ := h
  refine ⟨B, m, S, ρ, o, e, ?_⟩
  cases hc : c ρ S with
  | bad => rw [hc] at fin; exact fin
  | exc x S1 => rw [hc] at fin; exact fin
  | ok x S1 => rw [hc] at fin; exact fun vs H1 m1 s1 o1 r1 => k _ _ (fin vs H1 m1 s1 o1 r1)
section
variable {X : Cx} {p : Addr × Obj} {D dd : Addr} {T : List (Addr × Str)}
theorem pm_callE {nm : Str} {n k : Nat} {f : Fn} {fa : Addr} {fd : FuncData} {ps : List Str} {e : Expr} {es : List Expr} {c : CA} {q pos : Pos} (F : FnE X.prog X.w X.K X.mg X.base C8.CX0 k fa fd ps (spE X.K T D n f)) (hE : HeldE X p D dd) (hr : RoomH k X.A) (hm : X.mg nm = some (.ref fa))
    (hkp : PySem.W.keepIn X.K (.ref fa) = true) (hb : Binds X.K fd ps []) (hg : Gl X nm) (ha : PA X (e :: es) (tML X.K (clE T p.1 dd) W0 c)) (hdb : (nm == ("__debug__" : Str)) = false := by decide)
    (he : starEach (e :: es) X.env = (false, eval e X.env) :: starEach es X.env := by rfl) (hpl : (backTo pos (starEach es X.env)).any (·.1) = false := by rfl) : PE X (.Call (.Name nm q) (e :: es) [] pos) (tM X.K (clE T p.1 dd) W0 (cCall n false f c)) :=
  PE.imp (pe_callE (E := WE W0) F hr hE.pn hg hm hkp hb (fun σ pins H s e s' I h => h.elim) ha hdb he hpl) fun σ H Q h => tML_mono (call_ok h) fun vs H1 q => ⟨dd, ⟨hE.cls, hE.dict, hE.data⟩, q⟩
end
/-! ### values without instances are read alike everywhere -/
mutual
noncomputable def nIns : D → Bool
  | .tup xs => nInsL xs
  | .lst xs => nInsL xs
  | .ro xs => nInsL xs
  | .wt xs => nInsL xs
  | .dic _ xs => nInsL xs
  | .ins _ _ _ => false
  | _ => true
noncomputable def nInsL : List D → Bool
  | [] => true
  | x :: r => nIns x && nInsL r
end
mutual
theorem Rep.re {K : PySem.W.Frag} {cl cl' : ClT} {N N' : Addr → Prop} {H : Hp} (hN : ∀ a, N' a → N a) : ∀ {v : V} {d : D}, Rep K cl N H v d → nIns d = true → Rep K cl' N' H v d
  | _, _, .non, _ => .non
  | _, _, .bl b, _ => .bl b
  | _, _, .int b, _ => .int b
  | _, _, .str b, _ => .str b
  | _, _, .tup t r, h => .tup (t.weak hN) (RepL.re hN r h)
  | _, _, .lst e n r, h => .lst e (fun z => n (hN _ z)) (RepL.re hN r h)
  | _, _, .ro t r, h => .ro (t.weak hN) (RepL.re hN r h)
  | _, _, .wt t n r, h => .wt t (fun z => n (hN _ z)) (RepL.re hN r h)
  | _, _, .dic e n l r, h => .dic e (fun z => n (hN _ z)) l (RepL.re hN r h)
  | _, _, .ins _ _, h => by cases h
theorem RepL.re {K : PySem.W.Frag} {cl cl' : ClT} {N N' : Addr → Prop} {H : Hp} (hN : ∀ a, N' a → N a) : ∀ {vs : List V} {ds : List D}, RepL K cl N H vs ds → nInsL ds = true → RepL K cl' N' H vs ds
  | _, _, .nil, _ => .nil
  | _, _, .cons (d := d) (ds := ds) t r, h => by
    have h' : nIns d = true ∧ nInsL ds = true := by simpa only [nInsL, Bool.and_eq_true] using h
    exact .cons (Rep.re hN t h'.1) (RepL.re hN r h'.2)
end
/-! ### told -/
/-- the suite: word_now = _law_error(e); return ["error", word_now, repr(_law_field(e, word_now))] -/
noncomputable def bSuite (fE fF : Fn) : CS := sSeq (sAsg (tgName 3) (cCall 1 false fE (cCons (cV 2) cNil))) (sRet (cLst false (cCons (cS "error") (cCons (cV 3) (cCons (cB1 fReprD (cCons (cCall 2 false fF (cCons (cV 2) (cCons (cV 3) cNil))) cNil)) cNil)))))
/-- what is told of errors: class by class the two defs; tbl: the word and the text -/
structure ErrT where
  fE : Nat → Fn
  fF : Nat → Fn
  ok : Nat → Bool
  tbl : X0 → Option (Str × Str)
  run : ∀ e w r, tbl e = some (w, r) → ok e.c = true ∧ e.ns ≠ [] ∧ nInsL e.vs = true ∧ bSuite (fE e.c) (fF e.c) [none, none, some (.val (.ins 1000 e.ns e.vs)), none] [] = .rt (.ref 0) [.lst [.str "error", .str w, .str r]]
noncomputable def cTold (T : ErrT) (c : CE) : CE := fun ρ S => match c ρ S with
  | .ok (.val d) S1 => .ok (.val (.lst [.str "told", d])) S1
  | .ok (.ref _) _ => .bad
  | .exc e S1 => (match T.tbl e with
    | some (w, r) => .ok (.val (.lst [.str "error", .str w, .str r])) S1
    | none => .bad)
  | .bad => .bad
/-- what the suite is wished to do -/
noncomputable def tsE (K : PySem.W.Frag) (cl : ClT) (T : ErrT) : Addr → Value → Option Addr → TS := fun a cls d Dn σ H => (∃ σ1 : L2.St, σ = σ1.set 2 (some (.ref a))) ∧ H a = none ∧ Tabs cl.T H ∧ ∃ (e : X0) (dd : Addr) (xs : List V) (w r : Str), cls = .ref (cl e.c) ∧ d = some dd ∧
  H dd = some (.xd (e.ns.zip xs)) ∧ e.ns.length = xs.length ∧ RepL K cl (fun _ => False) H xs e.vs ∧ T.tbl e = some (w, r) ∧
  ∀ (p : Addr) (H1 : Hp), H p = none → (∀ b o, H b = some o → NT o → H1 b = some o) → (∀ b, H b ≠ none → H1 b ≠ none) → Tabs cl.T H1 → H1 p = some (.lst [.str "error", .str w, .str r]) → Dn.rt (.ref p) H1
/-- the reading of told, of the lambda's -/
noncomputable def TTold (K : PySem.W.Frag) (cl : ClT) (T : ErrT) (c1 c2 c3 : Value) : (XK → Hp → VK → Prop) → Hp → VK → Prop := fun tl H Q => ∃ Ech : XK,
  (∀ (cls : Value) (d : Option Addr) (H1 : Hp), Ech cls d H1 → PySem.W.exmAny K cls [c1, c2, c3] = some true ∧ ∀ (σ : L2.St) (a : Addr) (Dn : Ends), H1 a = none → Dn.rt = Q → tsE K cl T a cls d Dn (σ.set 2 (some (.ref a))) H1) ∧
  tl Ech H fun v H1 => ∀ p, H1 p = none → Q (.ref p) (upd H1 p (.lst [.str "told", v]))
end T3
/-! told, walked -/
namespace T3
open PySem PySem.Spec PyProof.Rows L2 LamX L2H
noncomputable def Nt : List Str := ["act", "back", "e", "word_now"]
noncomputable def sgT : Scope := { kind := .function, names := [("act", .local), ("back", .local), ("e", .local), ("word_now", .local), ("WrongValue", .globalImplicit), ("WrongName", .globalImplicit), ("NoAnswer", .globalImplicit), ("_law_error", .globalImplicit), ("repr", .globalImplicit), ("_law_field", .globalImplicit)], isGenerator := false, isCoroutine := false, more := [] }
theorem sc_told : FnScope Nt ["act"] sgT := ⟨rfl, rfl, rfl, by decide +kernel, rfl, by decide +kernel, by decide +kernel⟩
noncomputable def bgT (p0 p1 p2 p3 q1 q2 q3 np p4 p5 p6 p7 p8 p9 p10 p11 p12 p13 p14 p15 p16 p17 p18 p19 p20 p21 p22 p23 p24 : Pos) (kk j1 j2 : Nat) : List Stmt :=
  [.Try [.Assign [.Name "back" p0] (.Call (.Name "act" p1) [] [] p2) p3] [.ExceptHandler (some (.Tuple [.Name "WrongValue" q1, .Name "WrongName" q2, .Name "NoAnswer" q3] kk np)) (some "e")
    [.Assign [.Name "word_now" p4] (.Call (.Name "_law_error" p5) [.Name "e" p6] [] p7) p8, .Return (some (.List [.Constant (.str "error") j1 p9, .Name "word_now" p10, .Call (.Name "repr" p11) [.Call (.Name "_law_field" p12) [.Name "e" p13, .Name "word_now" p14] [] p15] [] p16] p17)) p18] p19] [] [] p20,
   .Return (some (.List [.Constant (.str "told") j2 p21, .Name "back" p22] p23)) p24]
/-- what is known of the classes and of the two defs that tell them -/
structure ErrF (P : Program) (w : World) (K : PySem.W.Frag) (mg : Str → Option Value) (base : Heap) (cl : ClT) (T : ErrT) (k : Nat) (c1 c2 c3 : Value) : Prop where
  n1 : mg "WrongValue" = some c1
  n2 : mg "WrongName" = some c2
  n3 : mg "NoAnswer" = some c3
  rp : mg "repr" = none
  cat : ∀ i, T.ok i = true → PySem.W.exmAny K (.ref (cl i)) [c1, c2, c3] = some true
  hE : ∃ (fa : Addr) (fd : FuncData) (ps : List Str), mg "_law_error" = some (.ref fa) ∧ PySem.W.keepIn K (.ref fa) = true ∧ Binds K fd ps [] ∧ ∀ i, T.ok i = true → FnE P w K mg base C8.CX0 k fa fd ps (spE K cl.T (cl i) 1 (T.fE i))
  hF : ∃ (fa : Addr) (fd : FuncData) (ps : List Str), mg "_law_field" = some (.ref fa) ∧ PySem.W.keepIn K (.ref fa) = true ∧ Binds K fd ps [] ∧ ∀ i, T.ok i = true → FnE P w K mg base C8.CX0 k fa fd ps (spE K cl.T (cl i) 2 (T.fF i))
section
variable {X : Cx} {cl : ClT} {T : ErrT} {k : Nat} {c1 c2 c3 : Value}
abbrev Zt (X : Cx) (x : Str) (g : Addr) (cdg : Value) (s : Shared) (H : Hp) : Cx := cxOf C8.CX0 X.prog X.w X.K X.mg X.base Nt x sgT g cdg X.A X.stack s H C8.E0
theorem suite_ok {x : Str} {g : Addr} {cdg : Value} {s0 : Shared} {H0 : Hp} {p4 p5 p6 p7 p8 p9 p10 p11 p12 p13 p14 p15 p16 p17 p18 : Pos} {j1 : Nat} (F : ErrF X.prog X.w X.K X.mg X.base cl T k c1 c2 c3) (hr : Room (k + 1) X.A) (gd : X.A.guards = some []) (a : Addr) (oe : Obj) (cls : Value) (d : Option Addr) (pn : List (Addr × Obj)) (hz : Zc cls d oe) (hv : ∃ vs, oe.data = .fields vs) :
    PSs ((Zt X x g cdg s0 H0).nox.suite a ((a, oe) :: pn)) [.Assign [.Name "word_now" p4] (.Call (.Name "_law_error" p5) [.Name "e" p6] [] p7) p8, .Return (some (.List [.Constant (.str "error") j1 p9, .Name "word_now" p10, .Call (.Name "repr" p11) [.Call (.Name "_law_field" p12) [.Name "e" p13, .Name "word_now" p14] [] p15] [] p16] p17)) p18]
      (tsE X.K cl T a cls d) := by
  refine ⟨fun pins s σ H D I hh => ?_⟩
  obtain ⟨⟨σ1, hσ⟩, na, tb, e, dd, xs, wd, r, rfl, rfl, hdd, hlen, rep, htbl, fin⟩ := hh
  obtain ⟨hok, _, hn, hrun⟩ := T.run e wd r htbl
  have hE : HeldE ((Zt X x g cdg s0 H0).nox.suite a ((a, oe) :: pn)) (a, oe) (cl e.c) dd := ⟨List.mem_cons_self, hz.1, hz.2, hv⟩
  obtain ⟨fa, fd, ps, m1, k1, b1, F1⟩ := F.hE
  obtain ⟨fa2, fd2, ps2, m2, k2, b2, F2⟩ := F.hF
  have hrH : RoomH k ((Zt X x g cdg s0 H0).nox.suite a ((a, oe) :: pn)).A := ⟨(hr.deeper (envOfC x sgT s0.heap.objs.size g cdg)).dp, (hr.deeper (envOfC x sgT s0.heap.objs.size g cdg)).un⟩
  have hu : ((Zt X x g cdg s0 H0).nox.suite a ((a, oe) :: pn)).A.units + 70 < cLine := by have := hrH.un; omega
  have gd' : ((Zt X x g cdg s0 H0).nox.suite a ((a, oe) :: pn)).A.guards = some [] := guards_deeper (env := envOfC x sgT s0.heap.objs.size g cdg) gd
  have st1 := pm_set (X := (Zt X x g cdg s0 H0).nox.suite a ((a, oe) :: pn)) (cl := clE cl.T a dd) (W := W0) (pos := p8) (pos' := p4) 3 sc_told.nd (pm_callE (p := (a, oe)) (q := p5) (pos := p7) (F1 e.c hok) hE hrH m1 k1 b1 rfl (pm_cons (pm_v (pos := p6) 2) pm_nil))
  have st2 := pm_ret (X := (Zt X x g cdg s0 H0).nox.suite a ((a, oe) :: pn)) (cl := clE cl.T a dd) (W := W0) (pos := p18) (pm_lst false (pos := p17) (pm_cons (pm_str (x := "error") (j := j1) (pos := p9)) (pm_cons (pm_v (pos := p10) 3) (pm_cons (pm_b (nm := "") (p := p11) (pos := p16) (cr_reprD gd' hu) ok_reprD F.rp (by rfl)
    (pm_cons (pm_callE (p := (a, oe)) (q := p12) (pos := p15) (F2 e.c hok) hE hrH m2 k2 b2 rfl (pm_cons (pm_v (pos := p13) 2) (pm_cons (pm_v (pos := p14) 3) pm_nil))) pm_nil)) pm_nil))))
  refine (pms_cons st1 (pms_one st2)).run pins s σ H D I ⟨fun _ => False, [], [], [none, none, some (.val (.ins 1000 e.ns e.vs)), none], ⟨fun _ z => z.elim, rfl, List.nodup_nil, fun i b o z => by simp at z, tb⟩, ⟨?_, fun i y hy => ?_⟩, ?_⟩
  · have hl := I.len
    show 4 = σ.length
    rw [hl]
    rfl
  · have hi : i = 2 := by
      have h4 := (List.getElem?_eq_some_iff.mp hy).1
      simp at h4
      match i, h4, hy with
      | 0, _, hy => simp at hy
      | 1, _, hy => simp at hy
      | 2, _, _ => rfl
      | 3, _, hy => simp at hy
    subst hi
    have hy : y = .val (.ins 1000 e.ns e.vs) := by simpa using hy.symm
    subst hy
    refine ⟨.ref a, ?_, .ins (.inr (.inl ⟨rfl, by decide, hdd, fun z => z.elim id (fun z => by simp at z), hlen⟩)) (RepL.re (fun b z => z.elim id (fun z => by simp at z)) rep hn)⟩
    have hl : σ.length = 4 := I.len
    rw [hσ] at hl ⊢
    rw [List.length_set] at hl
    exact List.getElem?_set_self (by omega)
  · have hrun : sSeq (sAsg (tgName 3) (cCall 1 false (T.fE e.c) (cCons (cV 2) cNil))) (sRet (cLst false (cCons (cS "error") (cCons (cV 3) (cCons (cB1 fReprD (cCons (cCall 2 false (T.fF e.c) (cCons (cV 2) (cCons (cV 3) cNil))) cNil)) cNil))))) [none, none, some (.val (.ins 1000 e.ns e.vs)), none] [] = .rt (.ref 0) [.lst [.str "error", .str wd, .str r]] := hrun
    rw [hrun]
    intro v H1 m1 st o1 r1
    obtain ⟨p, hp, rfl⟩ := r1
    obtain ⟨ys, hy, ry⟩ := o1.obj 0 p _ hp rfl
    have ey : ys = [.str "error", .str wd, .str r] := by
      match ys, ry with
      | [_, _, _], .cons a1 (.cons a2 (.cons a3 .nil)) => cases a1; cases a2; cases a3; rfl
    obtain ⟨q, hq, hqn⟩ := st.ext
    have hpq : p ∈ q := by
      have := List.mem_of_getElem? hp
      rw [hq] at this
      simpa using this
    exact fin p H1 (hqn p hpq) (fun b o hb nt => st.keep b o hb (by simp) nt) st.stay o1.tabs (by rw [hy, ey])
theorem told_gives3 {x q : Str} {g : Addr} {cdg : Value} {p0 p1 p2 p3 q1 q2 q3 np p4 p5 p6 p7 p8 p9 p10 p11 p12 p13 p14 p15 p16 p17 p18 p19 p20 p21 p22 p23 p24 : Pos} {kk j1 j2 : Nat} (F : ErrF X.prog X.w X.K X.mg X.base cl T k c1 c2 c3) (hr : Room (k + 1) X.A) (gd : X.A.guards = some []) :
    GivesTo X Nt x sgT g cdg (bgT p0 p1 p2 p3 q1 q2 q3 np p4 p5 p6 p7 p8 p9 p10 p11 p12 p13 p14 p15 p16 p17 p18 p19 p20 p21 p22 p23 p24 kk j1 j2) "act" q (TTold X.K cl T c1 c2 c3) := by
  intro f c' s H Q tl act hc hh
  obtain ⟨Ech, hE, htl⟩ := hh
  have tr := ps_try_as3 (X := (Zt X x g cdg s H).nox) (x1 := "WrongValue") (x2 := "WrongName") (x3 := "NoAnswer") (n := "e") (c1 := c1) (c2 := c2) (c3 := c3) (i := 2) (q1 := q1) (q2 := q2) (q3 := q3) (np := np) (kk := kk) (pos := p20) (hpos := p19)
    (body := [.Assign [.Name "back" p0] (.Call (.Name "act" p1) [] [] p2) p3])
    (tb := fun W D σ H => ∃ E1 : XK, (∀ cls d σ' H', E1 cls d H' → W cls d σ' H') ∧ σ[0]? = some (some (.ref f)) ∧ H c' = some (CodeO c' q) ∧ tl E1 H fun v H1 => D.nx (σ.set 1 (some v)) H1)
    rfl rfl sc_told.nd rfl rfl ⟨rfl, by decide, .inl F.n1⟩ ⟨rfl, by decide, .inl F.n2⟩ ⟨rfl, by decide, .inl F.n3⟩ (fun W pn xe tk _ => ?_) (fun a oe cls d pn hz hv => suite_ok (p4 := p4) (p5 := p5) (p6 := p6) (p7 := p7) (p8 := p8) (p9 := p9) (p10 := p10) (p11 := p11) (p12 := p12) (p13 := p13) (p14 := p14) (p15 := p15) (p16 := p16) (p17 := p17) (p18 := p18) (j1 := j1) F hr gd a oe cls d pn hz hv)
  · refine ⟨_, pss_cons tr (pss_one (ps_ret (pe_lst (pa_cons (pe_str (x := "told") (j := j2) (pos := p21)) (pa_cons (pe_var (X := (Zt X x g cdg s H).nox) (i := 1) (x := "back") (pos := p22) rfl (.inl rfl) (by decide) (by decide)) pa_nil))))), ?_⟩
    refine ⟨Ech, fun cls d σ' H' h => ?_, rfl, hc, ?_⟩
    · obtain ⟨h1, h2⟩ := hE cls d H' h
      exact ⟨h1, fun a na => h2 σ' a _ na rfl⟩
    · refine (congrArg (tl Ech H) (funext fun v => funext fun H1 => propext ⟨fun hq => ?_, fun hq => ?_⟩)).mp htl
      · exact ⟨v, rfl, (show 2 ≤ sizeLine by decide), hq⟩
      · obtain ⟨v', e, hq⟩ := hq
        cases e
        exact hq.2
  · refine ⟨fun pins s' σ H' D I h' => ?_⟩
    obtain ⟨E1, hW, h1, h2, h3⟩ := h'
    have hp := act W pn xe E1 p1 p2 tk hW
    have hs := pss_one (ps_set (i := 1) (x := "back") (pos := p3) (pos' := p0) sc_told.nd rfl (.inl rfl) hp)
    exact hs.run pins s' σ H' D I ⟨h1, h2, h3⟩
end
end T3
/-! _law_told(lambda: ..), joined -/
namespace T3
open PySem PySem.Spec PyProof.Rows L2 LamX L2H
section
variable {K : PySem.W.Frag} {cl : ClT} {B : Addr → Prop} {H H1 : Hp} {m : List Addr} {S : Store}
theorem Step.of3 (e : Ext3 H H1) : Step H m H1 m := ⟨⟨[], by simp, by simp⟩, fun a o h _ nt => e.1 a o h nt, e.2⟩
theorem Ok.of3 (o : Ok K cl B H m S) (e : Ext3 H H1) (t : Tabs cl.T H1) : Ok K cl B H1 m S := by
  refine ⟨fun a z => ⟨e.2 a (o.foreign a z).1, (o.foreign a z).2⟩, o.len, o.nd, fun i a x hi hx => ?_, t⟩
  have r := o.obj i a x hi hx
  refine r.mono ((Step.of3 e).kp fun a h => (o.foreign a h).2) ⟨[], by simp⟩ ?_
  obtain ⟨v, hv, nt, _⟩ := o.nt (List.mem_of_getElem? hi)
  rw [hv, e.1 a v hv nt]
end
/-- how _law_told stands -/
noncomputable def ToldS (st : Stmt) : Prop := ∃ (p0 p1 p2 p3 q1 q2 q3 np p4 p5 p6 p7 p8 p9 p10 p11 p12 p13 p14 p15 p16 p17 p18 p19 p20 p21 p22 p23 p24 : Pos) (kk j1 j2 : Nat),
  defBody st = bgT p0 p1 p2 p3 q1 q2 q3 np p4 p5 p6 p7 p8 p9 p10 p11 p12 p13 p14 p15 p16 p17 p18 p19 p20 p21 p22 p23 p24 kk j1 j2 ∧ defScope st = sgT
section
variable {X : Cx} {cl : ClT} {W : WX} {T : ErrT} {k : Nat} {c1 c2 c3 : Value}
theorem told_imp {cb : CE} (F : ErrF X.prog X.w X.K X.mg X.base cl T k c1 c2 c3) (σ : L2.St) (H : Hp) (Q : VK) (h : tM X.K cl W (cTold T cb) σ H Q) :
    tLam3 cl.T (TTold X.K cl T c1 c2 c3) (fun E => tM X.K cl (fun c d _ H => E c d H) cb) σ H Q := by
  obtain ⟨B, m, S, ρ, o, en, fin⟩ := h
  refine ⟨o.tabs, fun H1 e1 t1 => ?_⟩
  have s1 : Step H m H1 m := Step.of3 e1
  have o1 := o.of3 e1 t1
  have en1 := s1.env o en
  refine ⟨fun cls d H2 => ∃ (e : X0) (S2 : Store) (m2 : List Addr), cb ρ S = .exc e S2 ∧ Step H1 m H2 m2 ∧ Ok X.K cl B H2 m2 S2 ∧ ExcAt X.K cl (NN B m2) H2 cls d e, ?_, ?_⟩
  · rintro cls d H2 ⟨e, S2, m2, hc, s2, o2, x2⟩
    unfold cTold at fin
    rw [hc] at fin
    simp only at fin
    cases ht : T.tbl e with
    | none => rw [ht] at fin; exact fin.elim
    | some wr =>
    obtain ⟨wd, r⟩ := wr
    rw [ht] at fin
    obtain ⟨hok, hne, _, _⟩ := T.run e wd r ht
    obtain ⟨rfl, x3⟩ := x2
    refine ⟨F.cat _ hok, fun σ2 a Dn na hD => ?_⟩
    rcases x3 with ⟨z, _⟩ | ⟨da, xs, rfl, e2, n, l, rr⟩
    · exact absurd z hne
    · refine ⟨⟨σ2, rfl⟩, na, o2.tabs, e, da, xs, wd, r, rfl, rfl, e2, l, rr.weak (fun b z => z.elim), ht, fun p H3 hp hk hs htb hp3 => ?_⟩
      rw [hD]
      have x3' : Ext3 H2 H3 := ⟨fun b o hb nt => hk b o hb nt, hs⟩
      refine fin (.ref p) H3 m2 ((s1.trans s2).trans (Step.of3 x3')) (o2.of3 x3' htb) ?_
      exact .lst hp3 (o2.fresh hp) (.cons (.str _) (.cons (.str _) (.cons (.str _) .nil)))
  · refine ⟨B, m, S, ρ, o1, en1, ?_⟩
    unfold cTold at fin
    cases hc : cb ρ S with
    | bad => rw [hc] at fin; exact fin.elim
    | exc e S2 => exact fun c d H2 m2 s2 o2 x2 => ⟨e, S2, m2, rfl, s2, o2, x2⟩
    | ok x S2 =>
      rw [hc] at fin
      cases x with
      | ref i => exact fin.elim
      | val d =>
        intro v H2 m2 s2 o2 r2 p hp
        refine fin (.ref p) _ m2 ((s1.trans s2).trans (Step.new hp)) (o2.new hp) ?_
        exact .lst upd_same (o2.fresh hp) (.cons (.str _) (.cons (Rep.mono (Kp.new hp) r2) .nil))
/-- _law_told(lambda: bod) -/
theorem pm_told {st : Stmt} {co Pt : Addr} {prs : Arguments} {bod : Expr} {scp : Scope} {p lpos pos : Pos} {cb : CE} (D : At X.K X.mg "_law_told" st) (Z : ToldS st)
    (hbi : ∀ (kV doc pm : Value) (an : Option Addr) (cdv ct u : Value), bindArgs (PySem.W.fnOf "_law_told" "_law_told" (defArgs st) (defBody st) (defScope st) .none kV doc pm an cdv ct) ⟨[u], []⟩ = pure [(("act" : Str), u)])
    (F : ErrF X.prog X.w X.K X.mg X.base cl T k c1 c2 c3) (hg : Gl X "_law_told") (TB : TabB X.base X.mg co Pt) (hcode : X.env.code = .ref co) (hT : cl.T = [(Pt, X.env.qual ++ "<lambda>")]) {k2 : Nat} (hr : Room (k2 + 2) X.A) (hk : k ≤ k2 := by decide) (gd : X.A.guards = some [])
    (L : LamS X.env.scope scp) (nodef : defaultsOf prs X.env = ([], [])) (nobind : ∀ (q : Str) (cl : List (Str × Addr)) (pm cv ctv : Value), bindArgs (PySem.W.kla_fn "<lambda>" q prs bod scp cl pm cv ctv) ⟨[], []⟩ = pure [])
    (hbod : ∀ (A : Around) (outer : List Env) (s : Shared) (H : Hp) (E : XK) (f c' : Addr), (A.deeper (lamEnv X scp s.heap.objs.size f c')).guards = some [] → Room k2 (A.deeper (lamEnv X scp s.heap.objs.size f c')) →
      Takes (lamCx X A outer s H E scp f c') (fun c d _ H => E c d H) → PE (lamCx X A outer s H E scp f c') bod (tM X.K cl (fun c d _ H => E c d H) cb)) :
    PE X (.Call (.Name "_law_told" p) [.Lambda prs bod scp lpos] [] pos) (tM X.K cl W (cTold T cb)) := by
  obtain ⟨fa, fd, hm, G⟩ := D
  have kp := G.kp
  obtain ⟨oc, od, kV, doc, pm, an, cdv, ct, osl, rfl, lk, hcd⟩ := G.ex
  obtain ⟨p0, p1, p2, p3, q1, q2, q3, np, p4, p5, p6, p7, p8, p9, p10, p11, p12, p13, p14, p15, p16, p17, p18, p19, p20, p21, p22, p23, p24, kk, j1, j2, hB, hS⟩ := Z
  have hb : L2.Binds X.K (PySem.W.fnOf "_law_told" "_law_told" (defArgs st) (defBody st) (defScope st) .none kV doc pm an cdv ct) ["act"] [] := G.binds fun kV doc pm an cdv ct us hl => match us, hl with | [u], _ => hbi kV doc pm an cdv ct u
  rw [hB, hS] at lk hb
  have hr' : Room (k + 1) X.A := hr.mono (by omega)
  exact PE.imp (pe_lam3 (T := cl.T) (TT := TTold X.K cl T c1 c2 c3) (t := fun E => tM X.K cl (fun c d _ H => E c d H) cb) (a := "act") (Ng := Nt) hg hm kp lk hcd hb sc_told rfl (.inl rfl)
    (told_gives3 F hr' gd) TB hcode (by rw [hT]; exact List.mem_singleton.mpr rfl) (fun q hq _ => by rw [hT] at hq; rw [List.mem_singleton.mp hq]) hr L nodef nobind gd
    (fun A outer s H E f c' g1 r1 => hbod A outer s H E f c' g1 r1 (takes_of rfl rfl rfl rfl))) fun σ H Q h => told_imp F σ H Q h
end
end T3
/-! the program's error classes: what is asked of the written part -/
namespace T3
open PySem PySem.Spec PyProof.Rows L2 LamX L2H
def xNames : List Str := ["InvalidText", "InvalidNumber", "InvalidTable", "InvalidWord", "InvalidArguments", "InvalidTables", "InvalidOrder", "InvalidLot", "InvalidSheet", "InvalidName", "InvalidWish", "NotABox", "InvalidRows", "InvalidSteps", "InvalidTold", "InvalidExchanges", "InvalidWishes", "UnknownName", "InUse", "TooMany", "Broken", "NothingToUndo", "WrongValue", "WrongName", "NoAnswer"]
def xNm (j : Nat) : Str := xNames.getD j ""
/-- is class i one of class j's -/
noncomputable def xIs (i j : Nat) : Bool := j == i || (j == 22 && decide (i < 17)) || (j == 23 && decide (17 ≤ i) && decide (i < 19)) || (j == 24 && decide (19 ≤ i) && decide (i < 22))
noncomputable def xA (K : PySem.W.Frag) (j : Nat) : Addr := match PySem.W.nsIn K mainGlobals (xNm j) with
  | some (some (.ref a)) => a
  | _ => 0
structure ErrG (K : PySem.W.Frag) (mg : Str → Option Value) (f : Nat → Addr) (is : List Nat) : Prop where
  nm : ∀ j, j < 25 → mg (xNm j) = some (.ref (f j))
  ki : ∀ i ∈ is, ∀ j, j < 25 → PySem.W.kitOne K (.ref (f i)) (.ref (f j)) = some (xIs i j)
  k1 : ∀ i ∈ is, PySem.W.kitOne K (.ref (f i)) (.type "ValueError") = some (xIs i 22)
  k2 : ∀ i ∈ is, PySem.W.kitOne K (.ref (f i)) (.type "LookupError") = some (xIs i 23)
  k3 : ∀ i ∈ is, PySem.W.kitOne K (.ref (f i)) (.type "ArithmeticError") = some (xIs i 24)
  ce : ∀ i ∈ is, ClsE K (f i)
  ex : ∀ i ∈ is, PySem.W.exmAny K (.ref (f i)) [.ref (f 22), .ref (f 23), .ref (f 24)] = some true
  n1 : ∀ i ∈ is, PySem.W.findIn K (.ref (f i)) "given" = some none
  n2 : ∀ i ∈ is, PySem.W.findIn K (.ref (f i)) "index" = some none
  n3 : ∀ i ∈ is, PySem.W.findIn K (.ref (f i)) "shown" = some none
noncomputable def errB1 (K : PySem.W.Frag) : Bool := (List.range 25).all fun j => decide (PySem.W.nsIn K mainGlobals (xNm j) = some (some (.ref (xA K j))))
noncomputable def errB2 (K : PySem.W.Frag) (i : Nat) : Bool := (List.range 25).all fun j => decide (PySem.W.kitOne K (.ref (xA K i)) (.ref (xA K j)) = some (xIs i j))
noncomputable def errB3 (K : PySem.W.Frag) (C : Addr) (i : Nat) : Bool :=
  decide (PySem.W.kitOne K (.ref C) (.type "ValueError") = some (xIs i 22)) && (decide (PySem.W.kitOne K (.ref C) (.type "LookupError") = some (xIs i 23)) && (decide (PySem.W.kitOne K (.ref C) (.type "ArithmeticError") = some (xIs i 24)) &&
  (decide (PySem.W.exmAny K (.ref C) [.ref (xA K 22), .ref (xA K 23), .ref (xA K 24)] = some true) && (decide (PySem.W.findIn K (.ref C) "given" = some none) && (decide (PySem.W.findIn K (.ref C) "index" = some none) && decide (PySem.W.findIn K (.ref C) "shown" = some none))))))
noncomputable def errB4 (K : PySem.W.Frag) (C : Addr) : Bool := xfB K C && ((PySem.W.clsIn K C).isSome && (decide (PySem.W.findIn K (.ref C) "__class__" = some (some (.builtin "object.__class__"))) &&
  (decide (PySem.W.specialIn K (.builtin "object.__class__") "__get__" = some (some (.builtin "getset_descriptor.__get__"))) && (decide (PySem.W.takesIn K (.builtin "object.__class__") = some true) && decide (PySem.W.mroIn K C (.type "object") = some true)))))
theorem errG_of {K : PySem.W.Frag} {h : Heap} {mg : Str → Option Value} {is : List Nat} (X : K.In h) (G : h.Ns mainGlobals mg) (h1 : errB1 K = true) (h2 : ∀ i ∈ is, errB2 K i = true) (h3 : ∀ i ∈ is, errB3 K (xA K i) i = true) (h4 : ∀ i ∈ is, errB4 K (xA K i) = true) : ErrG K mg (xA K) is := by
  have hb3 : ∀ i ∈ is, _ := fun i hi => by
    have z := h3 i hi
    unfold errB3 at z
    simp only [Bool.and_eq_true, decide_eq_true_eq] at z
    exact z
  refine ⟨fun j hj => ?_, fun i hi j hj => ?_, fun i hi => (hb3 i hi).1, fun i hi => (hb3 i hi).2.1, fun i hi => (hb3 i hi).2.2.1, fun i hi => ?_, fun i hi => (hb3 i hi).2.2.2.1, fun i hi => (hb3 i hi).2.2.2.2.1, fun i hi => (hb3 i hi).2.2.2.2.2.1, fun i hi => (hb3 i hi).2.2.2.2.2.2⟩
  · exact PySem.W.mg_of X G (of_decide_eq_true (List.all_eq_true.mp h1 j (List.mem_range.mpr hj)))
  · exact of_decide_eq_true (List.all_eq_true.mp (h2 i hi) j (List.mem_range.mpr hj))
  · have z := h4 i hi
    unfold errB4 at z
    simp only [Bool.and_eq_true, decide_eq_true_eq] at z
    exact ⟨xfB_ok z.1, z.2.1, z.2.2.1, z.2.2.2.1, z.2.2.2.2.1, z.2.2.2.2.2⟩
noncomputable def errBB (K : PySem.W.Frag) (is : List Nat) : Bool := errB1 K && is.all fun i => errB2 K i && (errB3 K (xA K i) i && errB4 K (xA K i))
theorem errG_all {K : PySem.W.Frag} {h : Heap} {mg : Str → Option Value} {is : List Nat} (X : K.In h) (G : h.Ns mainGlobals mg) (b : errBB K is = true) : ErrG K mg (xA K) is := by
  unfold errBB at b
  obtain ⟨b1, b2⟩ := Bool.and_eq_true_iff.mp b
  have b3 : ∀ i ∈ is, _ := fun i hi => List.all_eq_true.mp b2 i hi
  simp only [Bool.and_eq_true] at b3
  exact errG_of X G b1 (fun i hi => (b3 i hi).1) (fun i hi => (b3 i hi).2.1) fun i hi => (b3 i hi).2.2
theorem tab_mk {K : PySem.W.Frag} {h : Heap} (X : K.In h) {x : Str} {f co Pt : Addr} {oc o2 : Value} {od od2 : Option Addr} {fd : FuncData} {sl sl2 : Array (Option Value)} {vs : Array Value} (n : PySem.W.nsIn K mainGlobals x = some (some (.ref f))) (l : K.lookup f = some ⟨oc, od, .func fd, sl⟩)
    (c : fd.code = .ref co) (lc : K.lookup co = some ⟨o2, od2, .fields vs, sl2⟩) (v : vs[11]? = some (.ref Pt)) : PySem.W.tabIn K x = some (co, Pt) := by
  unfold PySem.W.tabIn
  simp only [n, l, c, lc, v]
theorem tab_go {C : Prop} {K : PySem.W.Frag} {h : Heap} (X : K.In h) {x : Str} {f co Pt : Addr} {oc o2 : Value} {od od2 : Option Addr} {fd : FuncData} {sl sl2 : Array (Option Value)} {vs : Array Value} (n : PySem.W.nsIn K mainGlobals x = some (some (.ref f))) (l : K.lookup f = some ⟨oc, od, .func fd, sl⟩)
    (c : fd.code = .ref co) (lc : K.lookup co = some ⟨o2, od2, .fields vs, sl2⟩) (v : vs[11]? = some (.ref Pt)) (go : PySem.W.tabIn K x = some (co, Pt) → C) : C := go (tab_mk X n l c lc v)
/-! ### a class and its __init__ -/
theorem base_V : XI.BaseX "ValueError" "ValueError.__new__" "ValueError.__init__" [.type "ValueError", .type "Exception", .type "BaseException", .type "object"] := ⟨PySem.F.excBase_ValueError, PySem.W.kxs_ValueError, PySem.F.store_ValueError⟩
theorem base_L : XI.BaseX "LookupError" "LookupError.__new__" "LookupError.__init__" [.type "LookupError", .type "Exception", .type "BaseException", .type "object"] := ⟨PySem.F.excBase_LookupError, PySem.W.kxs_LookupError, PySem.F.store_LookupError⟩
theorem base_A : XI.BaseX "ArithmeticError" "ArithmeticError.__new__" "ArithmeticError.__init__" [.type "ArithmeticError", .type "Exception", .type "BaseException", .type "object"] := ⟨PySem.F.excBase_ArithmeticError, PySem.W.kxs_ArithmeticError, PySem.F.store_ArithmeticError⟩
/-- raised with one field -/
noncomputable def RaisX (prog : Program) (K : PySem.W.Frag) (mg : Str → Option Value) (nm f : Str) : Prop := ∃ (C fI : Addr) (B newId initId : String) (bmB : List Value), XI.XTxt prog K mg nm f C fI B newId initId bmB
noncomputable def xB (K : PySem.W.Frag) (C fI : Addr) (f : Str) (B newId initId : String) (bmB : List Value) : Bool :=
  PySem.W.excInitIn K C bmB newId && (PySem.W.excOver K C bmB && (decide (PySem.W.findIn K (.ref C) "__setattr__" = some (some (.builtin "object.__setattr__"))) && (decide (PySem.W.findIn K (.ref C) f = some none) && (PySem.W.hasDictIn K C &&
  (decide (PySem.W.findIn K (.ref C) "__init__" = some (some (.ref fI))) && (PySem.W.isFn K (.ref fI) && (PySem.W.keepIn K (.ref C) && (decide (PySem.W.subIn K (.ref C) (.type "BaseException") = some true) && (decide (PySem.W.typeIn K (.ref C) = some (.type "type")) &&
  (decide (PySem.W.subIn K (.ref C) (.type B) = some true) && (decide (PySem.W.mroIn K C (.ref C) = some true) && (decide (PySem.W.ks_superIn K C C "__init__" = some (some (.builtin initId))) && (decide (PySem.W.nsIn K mainGlobals "super" = some none) && decide (PySem.W.nsIn K cStatics "thirdparty.any" = some none))))))))))))))
theorem raisX_mk {prog : Program} {K : PySem.W.Frag} {h : Heap} {mg : Str → Option Value} {nm f : Str} {C fI : Addr} {B newId initId : String} {bmB : List Value} {oc dV kV doc pm ct : Value} {od an : Option Addr} {cda cc : Addr} {osl : Array (Option Value)} {qual : Str} {p1 p2 p0 a1 a2 a3 a4 q1 q2 q3 q4 : Pos}
    {ccl : Value} {cdd : Option Addr} {vs : Array Value} {ccs : Array (Option Value)} {file : Str} {tf : Tok} {cl : Value} {cld : Option Addr} {csl : Array (Option Value)}
    (X : K.In h) (G : h.Ns mainGlobals mg) (gC : PySem.W.nsIn K mainGlobals nm = some (some (.ref C))) (iC : PySem.W.findIn K (.ref C) "__init__" = some (some (.ref fI)))
    (l : K.lookup fI = some ⟨oc, od, .func (PySem.W.ksFn "__init__" qual (XI.ag f p1 p2) (XI.bd f p0 a1 a2 a3 a4 q1 q2 q3 q4) (XI.sc f) dV kV doc pm an (.ref cda) ct cc), osl⟩) (lc : K.lookup cda = some ⟨ccl, cdd, .fields vs, ccs⟩) (ll : K.lookup cc = some ⟨cl, cld, .cell (some (.ref C)), csl⟩)
    (cd : PySem.W.codeIn K (.ref cda) qual = true) (d0 : dV = .none) (ln : (a2.endLine == a3.line) = true) (vf : vs[2]? = some (.str file tf)) (hf : ((prog.main.file : Str) == file) = true) (top : (prog.main.scope.names.lookup ("super" : Str)).isSome = false) (base : XI.BaseX B newId initId bmB) (b : xB K C fI f B newId initId bmB = true) : RaisX prog K mg nm f := by
  unfold xB at b
  simp only [Bool.and_eq_true, decide_eq_true_eq] at b
  obtain ⟨b1, b2, b3, b4, b5, b6, b7, b8, b9, b10, b11, b12, b13, b14, b15⟩ := b
  exact ⟨C, fI, B, newId, initId, bmB, PySem.W.mg_of X G gC, base, b1, b2, b3, b4, b5, b6, b7, b8, b9, b10, b11, b12, b13, b14, b15, top, oc, od, dV, kV, doc, pm, an, cda, ct, cc, osl, qual, p1, p2, p0, a1, a2, a3, a4, q1, q2, q3, q4, l, d0, ln, cd, ⟨ccl, cdd, vs, ccs, file, tf, lc, vf, hf⟩, cl, cld, csl, ll⟩
section
variable {X : Cx} {cl : ClT} {W : WX} {is : List Nat}
/-- raise C(e), C the i-th class -/
theorem pm_raiseE (i : Nat) {f : Str} {a : Expr} {e : CE} {p pos pos2 : Pos} {k : Nat} (E : ErrG X.K X.mg cl.f is) (hi : i < 25) (R : RaisX X.prog X.K X.mg (xNm i) f) (hf : f = "given" ∨ f = "index") (hr : Room k X.A) (tk : Takes X W) (noS : X.mg "super" = none) (ha : PE X a (tM X.K cl W e)) (hc : X.calm = true := by rfl) (hg : Gl X (xNm i) := by rfl)
    (he : starEach (a :: []) X.env = (false, eval a X.env) :: starEach [] X.env := by rfl) (hpl : (backTo pos (starEach [] X.env)).any (·.1) = false := by rfl) (hdb : (xNm i == ("__debug__" : Str)) = false := by decide) :
    PS X (.Raise (some (.Call (.Name (xNm i) p) [a] [] pos)) none pos2) (tMS X.K cl W (sRaiseX i f e)) := by
  obtain ⟨C, fI, B, n1, n2, bm, T⟩ := R
  have e1 := T.gC.symm.trans (E.nm i hi)
  cases e1
  exact pm_raiseX i hc tk hf T hr noS ha hg he hpl hdb
theorem pm_isXC {i : Nat} (j : Nat) {x : Str} {pa : Addr × Obj} {dd : Addr} {f : Nat → Addr} {e : Expr} {c : CE} {p1 q pos : Pos} (hE : HeldE X pa (f i) dd) (G : ErrG X.K X.mg f is) (hi : i ∈ is) (hj : j < 25) (hx : x = xNm j) (h0 : cl 1000 = pa.1) (h1 : cl 1001 = dd) (he : PE X e (tM X.K cl W c)) (hm : X.mg "isinstance" = none)
    (hgx : Gl X x := by unfold Gl; kernel_rfl) (hdb : (x == ("__debug__" : Str)) = false := by decide) (hg : Gl X "isinstance" := by unfold Gl; kernel_rfl) (hs : starEach [e, .Name x q] X.env = (false, eval e X.env) :: starEach [.Name x q] X.env := by rfl) (hs2 : starEach [.Name x q] X.env = (false, eval (.Name x q) X.env) :: starEach [] X.env := by rfl)
    (hpl : (backTo pos (starEach [.Name x q] X.env)).any (·.1) = false := by rfl) : PE X (.Call (.Name "isinstance" p1) [e, .Name x q] [] pos) (tM X.K cl W (cIsX c (xIs i j))) :=
  pm_isX (t := .ref (f j)) (cv := .ref (f j)) hE (G.ce i hi) h0 h1 he (pe_glob hgx (by rw [hx]; exact G.nm j hj) rfl hdb) (fun u h => h) (G.ki i hi j hj) hm hg hs hs2 hpl
theorem pm_isXB {i : Nat} (j : Nat) {T : String} {x : Str} {pa : Addr × Obj} {dd D : Addr} {e : Expr} {c : CE} {p1 q pos : Pos} (hE : HeldE X pa D dd) (C : ClsE X.K D) (h0 : cl 1000 = pa.1) (h1 : cl 1001 = dd) (he : PE X e (tM X.K cl W c)) (hmx : X.mg x = none) (hv : bootBuiltins x = some (.type T)) (hk : PySem.W.kitOne X.K (.ref D) (.type T) = some (xIs i j)) (hm : X.mg "isinstance" = none)
    (hgx : Gl X x := by unfold Gl; kernel_rfl) (hn : x ≠ "__name__" := by decide) (hdb : (x == ("__debug__" : Str)) = false := by decide) (hg : Gl X "isinstance" := by unfold Gl; kernel_rfl) (hs : starEach [e, .Name x q] X.env = (false, eval e X.env) :: starEach [.Name x q] X.env := by rfl) (hs2 : starEach [.Name x q] X.env = (false, eval (.Name x q) X.env) :: starEach [] X.env := by rfl)
    (hpl : (backTo pos (starEach [.Name x q] X.env)).any (·.1) = false := by rfl) : PE X (.Call (.Name "isinstance" p1) [e, .Name x q] [] pos) (tM X.K cl W (cIsX c (xIs i j))) :=
  pm_isX (t := .ty T) (cv := .type T) hE C h0 h1 he (pe_bltn hgx hmx hv rfl hn hdb) (fun u h => h) hk hm hg hs hs2 hpl
theorem hu64H {k : Nat} {A : Around} (r : RoomH k A) : A.units + 64 < cLine := by have := r.un; omega
theorem hu65H {k : Nat} {A : Around} (r : RoomH k A) : A.units + 65 < cLine := by have := r.un; omega
theorem hu70H {k : Nat} {A : Around} (r : RoomH k A) : A.units + 70 < cLine := by have := r.un; omega
/-- the errors told, from the two defs -/
noncomputable def mkErr (fE : Nat → Fn) (fF : Fn) (is : List Nat) : ErrT where
  fE := fE
  fF := fun _ => fF
  ok := fun i => is.contains i
  tbl := fun e => if is.contains e.c && !e.ns.isEmpty && nInsL e.vs then (match bSuite (fE e.c) fF [none, none, some (.val (.ins 1000 e.ns e.vs)), none] [] with
    | .rt (.ref 0) [.lst [.str a, .str w, .str r]] => if a == "error" then some (w, r) else none
    | _ => none) else none
  run := by
    intro e w r h
    split at h
    · rename_i hc
      simp only [Bool.and_eq_true, Bool.not_eq_true', List.isEmpty_eq_false_iff] at hc
      split at h
      · rename_i a w' r' hb
        split at h
        · rename_i ha
          cases h
          rw [beq_iff_eq.mp ha] at hb
          exact ⟨hc.1.1, hc.1.2, hc.2, hb⟩
        · cases h
      · cases h
    · cases h
end
end T3
/-! xs.count(e) of texts; defs told the code object; the law's end with one table -/
namespace T3
open PySem PySem.Spec PyProof.Rows L2 LamX L2H
section
variable {X : Cx} {cl : ClT} {W : WX}
theorem plain_strs : ∀ bs : List Str, PyData.plainAll (bs.map PyData.str) = true
  | [] => rfl
  | b :: r => by
    show (PyData.plain (.str b) && PyData.plainAll (r.map PyData.str)) = true
    rw [plain_strs r]
    rfl
theorem reads_strs {h : Heap} : ∀ {bs : List Str} {us : List Value}, Vals (bs.map V.str) us → ∃ as, ReadsAll h us (bs.map PyData.str) as
  | [], _, .nil => ⟨_, .nil⟩
  | b :: r, u :: us, .cons e t => by
    obtain ⟨tk, rfl⟩ : ∃ tk, u = Value.str b tk := e
    obtain ⟨as, q⟩ := reads_strs t
    exact ⟨_, .cons (.str b tk) q⟩
theorem depth_strs : ∀ bs : List Str, PyData.depthAll (bs.map PyData.str) = 0
  | [] => rfl
  | b :: r => by
    show max (PyData.depth (.str b)) (PyData.depthAll (r.map PyData.str)) = 0
    rw [depth_strs r]
    rfl
noncomputable def rLCntS (K : PySem.W.Frag) : V → List V → Hp → VK → Prop := fun x xs H Q => ∃ (a : Addr) (bs : List Str) (b : Str), x = .ref a ∧ xs = [.str b] ∧ SqL K H a (bs.map V.str) ∧ Q (.int (bs.countP (fun z => PyData.eqv (.str z) (.str b)) : Nat)) H
theorem mt_lcountS (hu : X.A.units + 65 < cLine) : MtR X "list.count" (rLCntS X.K) := by
  rintro pins s σ H x xs v us Q I rx rxs ⟨a, bs, b, rfl, rfl, hq, q⟩
  cases rx
  match rxs with
  | .cons (b := u) ry .nil =>
  obtain ⟨tk, rfl⟩ : ∃ tk, u = Value.str b tk := ry
  obtain ⟨its, rv, pl, hz⟩ := I.list hq
  obtain ⟨as, rd⟩ := reads_strs (h := s.heap) rv
  refine PySem.SeqAt.count_list_data (vs := its.toArray) (xs := bs.map PyData.str) (d := .str b) pl.isList rd (.str b tk) (plain_strs bs) rfl (by rw [depth_strs]; simp; omega) ?_
  rw [List.countP_map]
  exact ⟨.int (bs.countP (fun z => PyData.eqv (.str z) (.str b)) : Nat), H, I.tok _, ⟨_, rfl⟩, q⟩
theorem eqv_strs (z b : Str) : PyData.eqv (.str z) (.str b) = (z == b) := by first | rfl | simp [PyData.eqv]
/-- the texts in a list -/
noncomputable def fLCntS (x : A) (xs : List A) (S : Store) : Res := match asL S x, xs with
  | some ds, [.val (.str b)] => (match strsOf ds with
    | some bs => .ok (.val (.int (bs.countP (· == b) : Nat))) S
    | none => .bad)
  | _, _ => .bad
theorem ok_lcntS : MtOk X.K cl (rLCntS X.K) fLCntS := by
  intro B H m S σ W v x vs xs Q o r rs h
  unfold fLCntS at h
  split at h
  · rename_i ds b hd
    split at h
    · rename_i bs hb
      obtain ⟨a, ys, rfl, q, rl⟩ := asL_ok o r hd
      obtain ⟨w, rfl, r1⟩ := one_arg rs
      cases r1
      refine ⟨a, bs, b, rfl, rfl, strsOf_ok rl hb ▸ q, ?_⟩
      simp only [eqv_strs]
      exact h.here o (.int _)
    · exact h.elim
  · exact h.elim
theorem pm_lcountS {o e : Expr} {c ce : CE} {apos cpos : Pos} (hu : X.A.units + 65 < cLine) (ho : PE X o (tM X.K cl W c)) (ha : PE X e (tM X.K cl W ce)) (hs1 : starEach [e] X.env = (false, eval e X.env) :: starEach [] X.env := by rfl)
    (hbase : attributeBase o "count" X.env (eval o X.env) = eval o X.env := by rfl) (hfew : ((backTo cpos (starEach [e] X.env)).all (fun x => !x.1) && (backToKw cpos (keywordEach [] X.env)).all (fun x => x.1.isSome)
      && decide ([e].length + ([] : List Keyword).length + (if ([] : List Keyword).isEmpty then 0 else 1) < 30)) = true := by rfl) (hline : (apos.endLine == cpos.line) = true := by rfl) (hplain : (backTo cpos (starEach [] X.env)).any (·.1) = false := by rfl) :
    PE X (.Call (.Attribute o "count" apos) [e] [] cpos) (tM X.K cl W (cMt tyL fLCntS c (cCons ce cNil))) :=
  PE.imp (pe_bm PySem.F.plainAttrs_list PySem.F.slot_list_count PySem.F.type_list_count (mt_lcountS hu) ho (pm_cons ha pm_nil hs1) hbase hfew hline hs1 hplain) fun _ _ _ h => tBM_ok ty_list ok_lcntS h
end
end T3
/-! defs told their code object; the law's end with one table of code objects -/
namespace T3
open PySem PySem.Spec PyProof.Rows L2 LamX L2H
section
variable {P : Program} {w : World} {K : PySem.W.Frag} {mg : Str → Option Value} {base : Heap} {cl : ClT}
theorem fnDT {nm : Str} {st : Stmt} {N ps : List Str} {k : Nat} {b : CS} {co : Addr} (hco : ∀ fa fd, Fun K nm nm st fa fd → mg nm = some (.ref fa) → fd.code = .ref co) (S : FnScope N ps (defScope st))
    (body : ∀ (fa : Addr) (A : Around) (outer : List Env) (s : Shared) (H : Hp) (E : XK),
      (A.deeper (envOfC nm (defScope st) s.heap.objs.size fa (.ref co))).guards = some [] → Room k (A.deeper (envOfC nm (defScope st) s.heap.objs.size fa (.ref co))) →
      Takes (cxOf (L2.CX P w) P w K mg base N nm (defScope st) fa (.ref co) A outer s H E) (fun c d _ H => E c d H) →
      PSs (cxOf (L2.CX P w) P w K mg base N nm (defScope st) fa (.ref co) A outer s H E) (defBody st) (tMS K cl (fun c d _ H => E c d H) b))
    (fa : Addr) (fd : FuncData) (hm : mg nm = some (.ref fa)) (F : Fun K nm nm st fa fd) : FnG P w K mg base (k + 1) fa fd ps (spF K cl ps.length (runF N.length b)) := by
  have h1 := hco fa fd F hm
  obtain ⟨oc, od, kV, doc, pm, an, cdv, ct, osl, rfl, lk, hcd⟩ := F.ex
  obtain rfl : cdv = .ref co := h1
  have hpl : ps.length ≤ N.length := by have := congrArg List.length S.pre; rw [List.length_take] at this; omega
  constructor
  · exact fun vs H Q E h => h.1
  intro A outer s H args us vs Q E g room e0 hb rv hsp
  have old : ∀ b o, base.get? b = some o → s.heap.get? b = some o := fun b o q => (e0.bs b o q).1
  have kin := e0.mod.kin.keeps old
  refine codeAny_call_function room.depth (kin _ _ lk) rfl S.co S.gen rfl (PySem.W.codeRec_of kin hcd) (hb _ _ _ _ ?_)
  refine wpAny_newFunctionEnv_cells S.kind (binds_kind S _ us) fun env he s1 z => ?_
  cases he
  refine ⟨(e0.mod.nolimit.keeps old).keeps z.toInCall.keep, codeAny_func ?_⟩
  obtain ⟨hl, B, m, S1, xs, o, r, fin⟩ := hsp
  have hq : tMS K cl (fun c d _ H => E c d H) b { nx := fun _ H' => Q .non H', rt := Q } (start N vs) H := by
    refine ⟨B, m, S1, _, o, env_start r (by omega), ?_⟩
    unfold runF at fin
    cases hb : b (xs.map some ++ List.replicate (N.length - xs.length) none) S1 with
    | bad => rw [hb] at fin; exact fin
    | bk _ _ => rw [hb] at fin; exact fin.elim
    | ct _ _ => rw [hb] at fin; exact fin.elim
    | nx ρ S' => rw [hb] at fin; exact fun σ H' m' s' o' e' => fin V.non H' m' s' o' .non
    | rt x S' => rw [hb] at fin; exact fun v H' m' s' o' r' => fin v H' m' s' o' r'
    | exc e ρ S' => rw [hb] at fin; exact fun c d σ H' m' s' o' e' x' => fin c d H' m' s' o' x'
  refine wpAny_mono ((body fa A outer s H E (guards_deeper g) (room.deeper _) (takes_of rfl rfl rfl rfl)).run [] s1 (start N vs) H _ (inv_start S room.hd e0 hl rv z) hq) (fun fl s2 q => ?_) fun _ _ q => q
  cases fl with
  | next => exact (let ⟨σ', H', J, q⟩ := q; ⟨V.non, H', J.os, J.bare, J.base, J.hok, rfl, q⟩)
  | ret u => exact (let ⟨v, σ', H', J, r, q⟩ := q; ⟨v, H', J.os, J.bare, J.base, J.hok, r, q⟩)
  | brk => exact (let ⟨_, _, _, q⟩ := q; q.elim)
  | cont => exact (let ⟨_, _, _, q⟩ := q; q.elim)
theorem calG_ofT {nm : Str} {st : Stmt} {ps : List Str} {j n : Nat} {f : Fn} (D : At K mg nm st) (bd : ∀ fa fd, Fun K nm nm st fa fd → Binds K fd ps []) (h : ∀ fa fd, mg nm = some (.ref fa) → Fun K nm nm st fa fd → FnG P w K mg base j fa fd ps (spF K cl n f)) (hn : ps.length = n := by rfl) : CalG P w K mg base cl j nm n f := by
  obtain ⟨fa, fd, hm, F⟩ := D
  exact ⟨fa, fd, ps, hm, F.kp, bd _ _ F, hn, h _ _ hm F⟩
/-- the code object of a def, from the written part -/
theorem code_of {x : Str} {co Pt : Addr} {h : Heap} (X : K.In h) (G : h.Ns mainGlobals mg) (ht : PySem.W.tabIn K x = some (co, Pt)) {st : Stmt} (fa : Addr) (fd : FuncData) (F : Fun K x x st fa fd) (hm : mg x = some (.ref fa)) : fd.code = .ref co := by
  obtain ⟨oc, od, kV, doc, pm, an, cdv, ct, osl, e, lk, hcd⟩ := F.ex
  exact PySem.W.law_code X G ht hm (X _ _ lk) rfl
end
theorem tabs_one {Pt : Addr} {q : Str} {H : Hp} (h : H Pt = some (.tbl #[])) : Tabs [(Pt, q)] H := fun p hp => by
  rw [List.mem_singleton.mp hp]
  exact ⟨#[], h, ⟨⟩, fun pos cv z => by cases z⟩
section
variable {P : Program} {w : World} {K : PySem.W.Frag} {mg mb : Str → Option Value} {k : Nat} {fa a co Pt : Addr} {fd : FuncData} {x : Str} {sp : Sp} {s₁ : Shared} {vs : List Value} {ns : List Int}
/-- from a heap in which at most the script and the table are seen -/
theorem law_coreT (KX : K.In s₁.heap) (hns : s₁.heap.Ns mainGlobals mg) (hb : s₁.heap.Ns builtinsNs mb) (hbb : ∀ y : Str, y ≠ "__name__" → mb y = bootBuiltins y) (hlim : s₁.heap.NoLimit)
    (hg : s₁.gens = #[]) (hT : s₁.heap.get? Pt = some (PySem.W.tabObj #[])) (nT : K.lookup Pt = none) (C : PySem.W.CodeHd s₁.heap co Pt)
    (hbm : ∃ (bm : Addr) (ob : Obj), mg "__builtins__" = some (.ref bm) ∧ bm ≠ builtinsNs ∧ s₁.heap.get? bm = some ob ∧ ob.cls = .type "module" ∧ ob.dict = some builtinsNs ∧ ob.data = .plain)
    (ha : s₁.heap.get? a = some { cls := .type "list", data := .seq vs.toArray }) (hr : Room k callerA)
    (F : ∀ b : Heap, K.In b → b.Ns mainGlobals mg → TabB b mg co Pt → FnG P w K mg b k fa fd [x] sp) (hbind : ∀ (s : Shared) (u : Value), BindsTo s fd ⟨[u], []⟩ [(x, u)])
    (H : Hp) (hO : ∀ b, H b = none ∨ (b = Pt ∧ H b = some (.tbl #[])) ∨ ∃ o xs, H b = some (.frz o (.lst xs))) (hP : H Pt = some (.tbl #[])) (hok : HOk P w H s₁.heap) (hA : ∀ b, H b ≠ none → b = a ∨ b = Pt) (hK : H a ≠ none → K.lookup a = none) (hsp : sp [.ref a] H (fun v _ => v = V.bl true) fun _ _ _ => False) :
    codeAny (model P w) callerA (.call (.ref fa) ⟨[.ref a], []⟩) (fun r s' => r = .ok (.ret (.bool true)) ∧ OldK s₁.heap s'.heap ∧ s'.os = s₁.os ∧ AllBare s'.gens) s₁ := by
  have unseen : ∀ {b : Addr} {o : Obj}, s₁.heap.get? b = some o → o.data ≠ .seq vs.toArray 0 → o.data ≠ .fields #[] → H b = none := by
    intro b o e d d2
    cases q : H b with
    | none => rfl
    | some u =>
      rcases hA b (by rw [q]; exact fun z => by cases z) with z | z
      · rw [z, ha] at e
        cases e
        exact absurd rfl d
      · rw [z, hT] at e
        cases e
        exact absurd rfl d2
  have nsK : ∀ {b : Addr} {m : Str → Option Value}, s₁.heap.Ns b m → (hidT s₁.heap H).Ns b m := by
    rintro b m ⟨o, es, ep, e, d, r⟩
    exact ⟨o, es, ep, hidT_get e (unseen e (by rw [d]; exact fun z => by cases z) (by rw [d]; exact fun z => by cases z)), d, r⟩
  have hKb : K.In (hidT s₁.heap H) := by
    intro b o e
    refine hidT_get (KX b o e) ?_
    cases q : H b with
    | none => rfl
    | some u =>
      rcases hA b (by rw [q]; exact fun z => by cases z) with z | z
      · rw [z] at e q
        rw [hK (by rw [q]; exact fun z => by cases z)] at e
        cases e
      · rw [z, nT] at e
        cases e
  obtain ⟨mc, l1, l2⟩ := hlim
  have hM : Mod K mg (hidT s₁.heap H) := ⟨hKb, nsK hns, ⟨mb, nsK hb, hbb⟩, ⟨mc, nsK l1, l2⟩⟩
  have e0 : Env0 P w K mg (hidT s₁.heap H) callerA [] s₁ H := ⟨rfl, hM, fun b o => of_hidT, Nat.le_of_eq (hidT_size _ _), trivial, fun b (hb : b ∈ ([] : List Addr)) => by simp at hb, hok, .of_eq hg⟩
  have TB : TabB (hidT s₁.heap H) mg co Pt := by
    refine ⟨?_, ?_, fun z => ?_⟩
    · obtain ⟨o, us, file, tf, flags, tg, inF, text, tt, e1, r1, r2, r3, r⟩ := C
      exact ⟨o, us, file, tf, flags, tg, inF, text, tt, hidT_get e1 (unseen e1 (by rw [r2]; exact fun z => by cases z) (fun z => by rw [r2] at z; cases z; simp at r3)), r1, r2, r3, r⟩
    · obtain ⟨bm, ob, b1, b2, b3, b4, b5, b6⟩ := hbm
      refine ⟨bm, ob, b1, b2, fun q => ?_, fun q => ?_, hidT_get b3 (unseen b3 (by rw [b6]; exact fun z => by cases z) (by rw [b6]; exact fun z => by cases z)), b4, b5, b6⟩
      · obtain ⟨o, es, ep, e, hd, _⟩ := hns
        rw [q, e] at b3
        cases b3
        rw [hd] at b6
        cases b6
      · rw [q, hT] at b3
        cases b3
        cases b6
    · obtain ⟨o, es, ep, e, hd, _⟩ := hns
      rw [z, hT] at e
      cases e
      cases hd
  have run := (F _ hKb (nsK hns) TB).run (A := callerA) (outer := []) (s := s₁) (H := H) (args := ⟨[.ref a], []⟩) (us := [.ref a]) (vs := [.ref a]) rfl hr e0 (hbind s₁ (.ref a)) (.cons rfl .nil) hsp
  refine codeAny_mono run fun r s' h => ?_
  match r, h with
  | .error e, h => obtain ⟨_, _, _, _, _, _, _, _, _, _, _, _, z⟩ := h; exact z.elim
  | .ok .next, h => exact h.elim
  | .ok .brk, h => exact h.elim
  | .ok .cont, h => exact h.elim
  | .ok (.ret u), h =>
    obtain ⟨v, H', os, bare, un, hok', r', q⟩ := h
    cases (show v = V.bl true from q)
    obtain rfl : u = Value.bool true := r'
    obtain ⟨more, g1⟩ : ∃ more : Array Value, s'.heap.get? Pt = some { cls := .none, data := .fields more } := by
      obtain ⟨more, z⟩ := un.tbls Pt #[] hP
      exact ⟨_, hok' Pt _ z⟩
    have key : ∀ b o, b ≠ Pt → s₁.heap.get? b = some o → s'.heap.get? b = some o := fun b o nb e => by
      rcases hO b with z | ⟨z, _⟩ | ⟨ob, xs, z⟩
      · exact un.keep b o e z (fun z => List.not_mem_nil (show b ∈ ([] : List Addr) from z)) (by simp)
      · exact absurd z nb
      · have e1 := (hok b _ z).1
        have e2 := (hok' b _ (un.frzs b ob _ z)).1
        rw [e] at e1
        cases e1
        exact e2
    refine ⟨rfl, ⟨fun b o e => ?_, fun b o e => ?_⟩, os, bare⟩
    · by_cases hb : b = Pt
      · subst hb
        rw [hT] at e
        cases e
        exact .inr (.inl ⟨(C.tab hT).isCodeTable, rfl, #[], more, rfl, by rw [Array.empty_append]; exact g1⟩)
      · exact .inl (key b o hb e)
    · by_cases hb : b = Pt
      · exact ⟨_, by rw [hb]; exact g1⟩
      · exact ⟨o, key b o hb e⟩
theorem law_callT (KX : K.In s₁.heap) (hns : s₁.heap.Ns mainGlobals mg) (hb : s₁.heap.Ns builtinsNs mb) (hbb : ∀ y : Str, y ≠ "__name__" → mb y = bootBuiltins y) (hlim : s₁.heap.NoLimit)
    (hg : s₁.gens = #[]) (hT : s₁.heap.get? Pt = some (PySem.W.tabObj #[])) (nT : K.lookup Pt = none) (C : PySem.W.CodeHd s₁.heap co Pt)
    (hbm : ∃ (bm : Addr) (ob : Obj), mg "__builtins__" = some (.ref bm) ∧ bm ≠ builtinsNs ∧ s₁.heap.get? bm = some ob ∧ ob.cls = .type "module" ∧ ob.dict = some builtinsNs ∧ ob.data = .plain)
    (ha : s₁.heap.get? a = some { cls := .type "list", data := .seq vs.toArray }) (hi : IntsAre vs ns) (hl : ns.length ≤ sizeLine) (hr : Room k callerA)
    (F : ∀ b : Heap, K.In b → b.Ns mainGlobals mg → TabB b mg co Pt → FnG P w K mg b k fa fd [x] sp) (hbind : ∀ (s : Shared) (u : Value), BindsTo s fd ⟨[u], []⟩ [(x, u)])
    (hsp : ∀ H : Hp, H Pt = some (.tbl #[]) → SqL K H a (ns.map V.int) → sp [.ref a] H (fun v _ => v = V.bl true) fun _ _ _ => False) :
    codeAny (model P w) callerA (.call (.ref fa) ⟨[.ref a], []⟩) (fun r s' => r = .ok (.ret (.bool true)) ∧ OldK s₁.heap s'.heap ∧ s'.os = s₁.os ∧ AllBare s'.gens) s₁ := by
  have rv := vals_ints hi
  have nP : a ≠ Pt := fun z => by rw [z, hT] at ha; cases ha
  cases hk : K.lookup a with
  | some o =>
    have e := (KX a o hk).symm.trans ha
    cases e
    let H : Hp := fun b => if b = Pt then some (.tbl #[]) else none
    have h1 : H Pt = some (.tbl #[]) := if_pos rfl
    have h2 : ∀ {b}, b ≠ Pt → H b = none := fun h => if_neg h
    refine law_coreT KX hns hb hbb hlim hg hT nT C hbm ha hr F hbind H (fun b => ?_) h1 (fun b u z => ?_) (fun b z => ?_) (fun z => absurd (h2 nP) z) (hsp _ h1 (.inr ⟨_, vs.toArray, _, hk, rfl, rfl, rfl, ?_, by simpa using rv⟩))
    · by_cases h : b = Pt
      · exact .inr (.inl ⟨h, by rw [h]; exact h1⟩)
      · exact .inl (h2 h)
    · by_cases h : b = Pt
      · rw [h, h1] at z
        cases z
        rw [h]
        exact hT
      · rw [h2 h] at z
        cases z
    · by_cases h : b = Pt
      · exact .inr h
      · exact absurd (h2 h) z
    · rw [List.size_toArray, hi.length]
      exact hl
  | none =>
    let H : Hp := fun b => if b = a then some (.frz { cls := .type "list", data := .seq vs.toArray } (.lst (ns.map V.int))) else if b = Pt then some (.tbl #[]) else none
    have at1 : H a = some (.frz { cls := .type "list", data := .seq vs.toArray } (.lst (ns.map V.int))) := if_pos rfl
    have at2 : H Pt = some (.tbl #[]) := (if_neg (Ne.symm nP)).trans (if_pos rfl)
    have at3 : ∀ {b}, b ≠ a → b ≠ Pt → H b = none := fun h h' => (if_neg h).trans (if_neg h')
    refine law_coreT KX hns hb hbb hlim hg hT nT C hbm ha hr F hbind H (fun b => ?_) at2 (fun b u z => ?_) (fun b z => ?_) (fun _ => hk) (hsp H at2 (.inl (.inr ⟨_, at1⟩)))
    · by_cases h : b = a
      · subst h; exact .inr (.inr ⟨_, _, at1⟩)
      · by_cases h' : b = Pt
        · exact .inr (.inl ⟨h', by rw [h']; exact at2⟩)
        · exact .inl (at3 h h')
    · by_cases h : b = a
      · subst h
        rw [at1] at z
        cases z
        exact ⟨ha, by rw [List.length_map]; exact hl, vs, _, rv, ha⟩
      · by_cases h' : b = Pt
        · rw [h', at2] at z
          cases z
          rw [h']
          exact hT
        · rw [at3 h h'] at z
          cases z
    · by_cases h : b = a
      · exact .inl h
      · by_cases h' : b = Pt
        · exact .inr h'
        · exact absurd (at3 h h') z
end
theorem walkT {l : PySem.W.OpenLaw} {k : Nat} {q : Program} {loose : List Str} {XP : (Str → Option Value) → Heap → Prop} {YP : World → Heap → Prop} {d : DefRec} {K : Params → PySem.W.Frag} {x qn : Str} {f : Fn} (L : LawSays f)
    (hn : l.most = some 63) (hdf : d.params.defaults = []) (hr : Room k callerA) (hY : ∀ (w : World) (h : Heap), YP w h → (K w.params).In h)
    (F : ∀ (w : World) (mg : Str → Option Value) (fa : Addr) (h : Heap), YP w h → (K w.params).In h → h.Ns mainGlobals mg → mg d.name = some (.ref fa) →
      ∃ (co Pt : Addr) (fd : FuncData) (cl : Nat → Addr), h.get? Pt = some (PySem.W.tabObj #[]) ∧ PySem.W.codeHdIn (K w.params) co Pt = true ∧ (K w.params).lookup Pt = none ∧ (∀ (s : Shared) (u : Value), BindsTo s fd ⟨[u], []⟩ [(x, u)]) ∧
        ∀ base : Heap, (K w.params).In base → base.Ns mainGlobals mg → TabB base mg co Pt → FnG l.prog w (K w.params) mg base k fa fd [x] (spF (K w.params) ⟨cl, [(Pt, qn)]⟩ 1 f)) :
    PySem.W.WalkO q loose XP YP l.row.toRowW d [] (fun f vs => PySem.call f vs) := by
  refine Att.attach_call hn hdf fun w s₀ s₁ mg mb fa o pm cd doc a vs ns G Y ho hd hcd hmg hobj hints hlen hg => ?_
  have KX := hY w _ Y
  obtain ⟨co, Pt, fd, cl, hT, ht, nT, hb, hF⟩ := F w mg fa _ Y KX G.T.g hmg
  exact law_callT KX G.T.g G.T.b G.T.builtins G.T.nolimit hg hT nT (PySem.W.codeHd_of_K KX ht) G.T.bmain hobj hints (Nat.le_trans hlen (by decide)) hr hF hb fun H hH hS => spLaw L H a ns hlen hS (tabs_one hH)
/-- the law's end where a def hands lambdas on -/
theorem law_endT {P : Program} {w : World} {K : PySem.W.Frag} {mg : Str → Option Value} {h : Heap} {pn qn : Str} {cl : Nat → Addr} {st : Stmt} {fa co Pt : Addr} {j : Nat} {f : Fn} (hm : mg "law" = some (.ref fa)) (D : At K mg "law" st) (hT : h.get? Pt = some (PySem.W.tabObj #[])) (hc : PySem.W.codeHdIn K co Pt = true) (nT : K.lookup Pt = none)
    (bd : ∀ fa fd, Fun K "law" "law" st fa fd → ∀ (s : Shared) (u : Value), BindsTo s fd ⟨[u], []⟩ [(pn, u)])
    (hF : ∀ (base : Heap), TabB base mg co Pt → ∀ fa fd, Fun K "law" "law" st fa fd → FnG P w K mg base j fa fd [pn] (spF K ⟨cl, [(Pt, qn)]⟩ 1 f)) :
    ∃ (co Pt : Addr) (fd : FuncData) (cl : Nat → Addr), h.get? Pt = some (PySem.W.tabObj #[]) ∧ PySem.W.codeHdIn K co Pt = true ∧ K.lookup Pt = none ∧ (∀ (s : Shared) (u : Value), BindsTo s fd ⟨[u], []⟩ [(pn, u)]) ∧
        ∀ base : Heap, K.In base → base.Ns mainGlobals mg → TabB base mg co Pt → FnG P w K mg base j fa fd [pn] (spF K ⟨cl, [(Pt, qn)]⟩ 1 f) := by
  obtain ⟨fa', fd, hm', F⟩ := D
  cases hm.symm.trans hm'
  exact ⟨co, Pt, fd, cl, hT, hc, nT, bd _ _ F, fun base _ _ tb => hF base tb _ _ F⟩
end T3
/-! dict displays; defs as values -/
namespace T3
open PySem PySem.Spec PyProof.Rows L2 LamX L2H
section
variable {X : Cx} {cl : ClT} {W : WX}
/-! ### displays -/
theorem repl_si {N : Addr → Prop} {H : Hp} : ∀ kvs : List (Str × Int), RepL X.K cl N H (kvs.map fun kv => V.int kv.2) (kvs.map fun kv => D.int kv.2)
  | [] => .nil
  | kv :: r => .cons (.int _) (repl_si r)
noncomputable def cDic0 : CE := fun _ S => .ok (.val (.dic [] [])) S
theorem pm_dic0 {pos : Pos} : PE X (.Dict [] [] pos) (tM X.K cl W cDic0) := PE.imp pe_dnewK fun σ H Q h => by
  obtain ⟨B, m, S, ρ, o, e, fin⟩ := h
  exact fun p hp => fin (.ref p) _ m (Step.new hp) (o.new hp) (.dic (ks := []) (xs := []) upd_same (o.fresh hp) rfl .nil)
noncomputable def cDicC (kvs : List (Str × Int)) : CE := fun _ S => .ok (.val (.dic (kvs.map fun kv => Sum.inr kv.1) (kvs.map fun kv => .int kv.2))) S
theorem pm_dicC (kvs : List (Str × Int)) {keys : List (Option Expr)} {vals : List Expr} {pos : Pos} (hp : PPs X pos keys vals (trC kvs)) (hall : keys.all (·.isSome) = true := by rfl) (hl : keys.length = vals.length := by rfl) (h0 : keys ≠ [] := by exact fun z => by cases z) (h15 : keys.length ≤ 15 := by decide) (nd : (kvs.map Prod.fst).Nodup := by decide +kernel) (hkl : kvs.length ≤ 15 := by decide) :
    PE X (.Dict keys vals pos) (tM X.K cl W (cDicC kvs)) := PE.imp (pe_disp hp hall hl h0 h15) fun σ H Q h => by
  obtain ⟨B, m, S, ρ, o, en, fin⟩ := h
  refine fun p hp => tPairs_c ⟨upd_same, siK kvs, by simp [kV], by simpa using hkl, ?_⟩
  have nd2 : ((siK kvs).map Prod.fst).Nodup := by
    rw [List.map_map]
    have : (Prod.fst ∘ fun kv : Str × Int => ((Sum.inr kv.1 : Key), V.int kv.2)) = (Sum.inr : Str → Key) ∘ Prod.fst := rfl
    rw [this, ← List.map_map]
    exact List.Pairwise.map _ (fun a b h e => h (Sum.inr.inj e)) nd
  rw [merge_new _ [] nd2 (fun a ha => by simp at ha), List.nil_append]
  have eqh : upd (upd H p (.dK [])) p (.dK (siK kvs)) = upd H p (.dK (siK kvs)) := by
    funext b
    by_cases e : b = p
    · subst e; rw [upd_same, upd_same]
    · rw [upd_ne e, upd_ne e, upd_ne e]
  rw [eqh]
  have hz : siK kvs = (kvs.map fun kv => (Sum.inr kv.1 : Key)).zip (kvs.map fun kv => V.int kv.2) := by
    induction kvs with
    | nil => rfl
    | cons a r _ => simp [siK, List.zip_map']
  refine fin (.ref p) _ m (Step.new hp) (o.new hp) (.dic (xs := kvs.map fun kv => V.int kv.2) (by rw [upd_same, hz]) (o.fresh hp) (by simp) ?_)
  exact repl_si kvs
/-! ### defs as values -/
/-- the c-th def -/
noncomputable def defD (c : Nat) : D := .ins c [] []
theorem pm_fn {x : Str} {c : Nat} {pos : Pos} (hm : X.mg x = some (.ref (cl c))) (hc : 2000 ≤ c := by decide) (hg : Gl X x := by rfl) (hd : (x == ("__debug__" : Str)) = false := by decide) : PE X (.Name x pos) (tM X.K cl W (cK (defD c))) :=
  pm_g (v := .ref (cl c)) ⟨_, hm, rfl⟩ (fun N H => .ins (.inr (.inr ⟨rfl, hc, rfl, rfl⟩)) .nil) hg hd
/-- a(e, ..), a a def -/
noncomputable def cCallV (tbl : Nat → Option Fn) (n : Nat) (adopt : Bool) (ce : CE) (c : CA) : CE := fun ρ S => (ce ρ S).bind fun x S1 => match x with
  | .val (.ins k [] []) => (match tbl k with
    | some f => cCall n adopt f c ρ S1
    | none => .bad)
  | _ => .bad
theorem pm_callV (adopt : Bool) {nm : Str} {tbl : Nat → Option Fn} {n j k : Nat} {e : Expr} {es : List Expr} {ce : CE} {c : CA} {p pos : Pos} (hv : PE X (.Name nm p) (tM X.K cl W ce)) (ht : ∀ i f, tbl i = some f → 2000 ≤ i ∧ ∃ y, X.mg y = some (.ref (cl i)) ∧ CalG X.prog X.w X.K X.mg X.base cl j y n f)
    (hr : Room k X.A) (g : X.A.guards = some []) (tk : Takes X W) (ha : PA X (e :: es) (tML X.K cl W c)) (hk : j ≤ k := by decide) (he : starEach (e :: es) X.env = (false, eval e X.env) :: starEach es X.env := by rfl)
    (hpl : (backTo pos (starEach es X.env)).any (·.1) = false := by rfl) : PE X (.Call (.Name nm p) (e :: es) [] pos) (tM X.K cl W (cCallV tbl n adopt ce c)) := by
  refine ⟨fun pins s σ H Q I h => ?_⟩
  obtain ⟨B, m, S, ρ, o, en, fin⟩ := h
  refine wpAny_Call_Name_kw (thn (hv.run pins s σ H (fun v H1 => ∃ i f, v = .ref (cl i) ∧ tbl i = some f ∧ tM X.K cl W (cCall n adopt f c) σ H1 Q) I ⟨B, m, S, ρ, o, en, Fin.bind fin fun x S1 v H1 m1 s1 o1 r1 f1 => ?_⟩) fun u s1 hh => ?_)
  · split at f1
    · rename_i i
      split at f1
      · rename_i f hf
        refine ⟨i, f, ?_, hf, B, m1, S1, ρ, o1, s1.env o en, f1⟩
        cases r1 with
        | ins t q =>
          rcases t with ⟨z, _⟩ | ⟨rfl, _⟩ | ⟨rfl, _⟩
          · have := (ht i f hf).1; omega
          · rfl
          · rfl
      · exact f1.elim
    · exact f1.elim
  · obtain ⟨v, H1, I1, rv, i, f, rfl, hf, h2⟩ := hh
    obtain rfl : u = Value.ref (cl i) := rv
    obtain ⟨_, y, hy, C⟩ := ht i f hf
    obtain ⟨fa, fd, ps, hm, hkp, hb, hps, F⟩ := C.ex
    have ea : cl i = fa := by have := hy.symm.trans hm; injection this with this; injection this
    rw [ea]
    refine PySem.W.callWith_K (h₀ := X.base) I1.ok.mod.kin hkp (thn (ha.run pos pins s1 σ H1 _ I1 (call_ok h2)) fun us s2 ⟨vs, H2, I2, r, q⟩ => ⟨I2.kIn, ?_⟩) he hpl
    have hl : us.length = ps.length := by rw [← r.length, q.1, hps]
    have b := hb s2 us I2.kIn (by rw [List.append_nil]; exact hl)
    rw [List.append_nil] at b
    exact run_fnG (F.up hk) hr g tk I2 b r q
theorem CalG.up {P : Program} {w : World} {K : PySem.W.Frag} {mg : Str → Option Value} {base : Heap} {j k n : Nat} {nm : Str} {f : Fn} (C : CalG P w K mg base cl j nm n f) (h : j ≤ k) : CalG P w K mg base cl k nm n f := by
  obtain ⟨fa, fd, ps, h1, h2, h3, h4, F⟩ := C.ex
  exact ⟨fa, fd, ps, h1, h2, h3, h4, F.up h⟩
end
/-! ### where classes and defs stand -/
noncomputable def fA (K : PySem.W.Frag) (x : Str) : Addr := match PySem.W.nsIn K mainGlobals x with
  | some (some (.ref a)) => a
  | _ => 0
noncomputable def cfn (K : PySem.W.Frag) (fns : List Str) : Nat → Addr := fun n => if n < 2000 then xA K n else fA K (fns.getD (n - 2000) "")
theorem errG_cfn {K : PySem.W.Frag} {mg : Str → Option Value} {is : List Nat} (fns : List Str) (E : ErrG K mg (xA K) is) (hi : ∀ i ∈ is, i < 25) : ErrG K mg (cfn K fns) is := by
  have e : ∀ j, j < 25 → cfn K fns j = xA K j := fun j hj => if_pos (by omega)
  refine ⟨fun j hj => by rw [e j hj]; exact E.nm j hj, fun i h j hj => by rw [e i (hi i h), e j hj]; exact E.ki i h j hj, fun i h => by rw [e i (hi i h)]; exact E.k1 i h, fun i h => by rw [e i (hi i h)]; exact E.k2 i h, fun i h => by rw [e i (hi i h)]; exact E.k3 i h, fun i h => by rw [e i (hi i h)]; exact E.ce i h, fun i h => ?_,
    fun i h => by rw [e i (hi i h)]; exact E.n1 i h, fun i h => by rw [e i (hi i h)]; exact E.n2 i h, fun i h => by rw [e i (hi i h)]; exact E.n3 i h⟩
  rw [e i (hi i h), e 22 (by decide), e 23 (by decide), e 24 (by decide)]
  exact E.ex i h
theorem fnv_mk {K : PySem.W.Frag} {h : Heap} {mg : Str → Option Value} {fns : List Str} {T : List (Addr × Str)} {x : Str} {i : Nat} (X : K.In h) (G : h.Ns mainGlobals mg) (b : decide (PySem.W.nsIn K mainGlobals x = some (some (.ref (cfn K fns i)))) = true) : mg x = some (.ref ((⟨cfn K fns, T⟩ : ClT) i)) := PySem.W.mg_of X G (of_decide_eq_true b)
end T3
namespace T3
open PySem PySem.Spec PyProof.Rows L2
noncomputable def g_DIGITS : D := .str "012"
noncomputable def g_MOST_PLACES : D := .int 3
noncomputable def b__law_at : CS := sSeq (sAsg (tgName 2) (cI 0)) (sSeq (sForV (cV 1) (tgName 3) (sAsg (tgName 2) (cBin (fAdd true) (cBin (fMul true) (cI 3) (cV 2)) (cV 3)))) (sRet (cB1 (fInt) (cCons (cBin fIx (cV 0) (cV 2)) (cNil)))))
noncomputable def m__law_at : Fn := runF 4 b__law_at
noncomputable def b__law_places : CS := sRet (cBin (fAdd false) (cMt tyL fIndex (cLst true (cCons (cI 3) (cCons (cI 9) (cCons (cI 27) (cNil))))) (cCons (cB1 (fLen) (cCons (cV 0) (cNil))) cNil)) (cI 1))
noncomputable def m__law_places : Fn := runF 1 b__law_places
noncomputable def b__law_tuples : CS := sSeq (sAsg (tgName 1) (cLst true (cCons (cTup (cNil)) (cNil)))) (sSeq (sFor (ciR1 (cV 0)) (tgName 2) (sSeq (sAsg (tgName 3) (cLst true (cNil))) (sSeq (sForV (cV 1) (tgName 4) (sAsg (tgName 3) (cBin (fAdd true) (cV 3) (cLst true (cCons (cBin (fAdd true) (cV 4) (cTup (cCons (cI 0) (cNil)))) (cCons (cBin (fAdd true) (cV 4) (cTup (cCons (cI 1) (cNil)))) (cCons (cBin (fAdd true) (cV 4) (cTup (cCons (cI 2) (cNil)))) (cNil)))))))) (sAsg (tgName 1) (cV 3))))) (sRet (cV 1)))
noncomputable def m__law_tuples : Fn := runF 5 b__law_tuples
noncomputable def b__law_counting : CS := sSeq (sPar 2 3 (cCons (cCall 1 false m__law_places (cCons (cV 0) (cNil))) (cCons (cLst false (cNil)) cNil))) (sSeq (sFor (ciR1 (cV 2)) (tgName 1) (sFor (ciV (cCall 1 false m__law_tuples (cCons (cV 2) (cNil)))) (tgName 4) (sSeq (sAsg (tgName 5) (cLc true [6] (ciR1 (cI 3)) (tgName 6) (cYes) (cCall 2 false m__law_at (cCons (cV 0) (cCons (cBin (fAdd true) (cBin (fAdd true) (cSl true (cV 4) none (some (cV 1))) (cTup (cCons (cV 6) (cNil)))) (cSl true (cV 4) (some (cBin (fAdd true) (cV 1) (cI 1))) none)) (cNil)))))) (sIf (cAnd (cBin fNe (cV 5) (cBin (fMul true) (cLst true (cCons (cBin fIx (cV 5) (cI 0)) (cNil))) (cI 3))) (cBin fNotIn (cV 1) (cV 3))) (sExp (cMt tyL fAppend (cV 3) (cCons (cV 1) cNil))) (sNil))))) (sRet (cV 3)))
noncomputable def m__law_counting : Fn := runF 7 b__law_counting
noncomputable def b__law_draw : CS := sSeq (sAsg (tgSub (cV 0) (cI 2)) (cBin (fAdd true) (cBin fIx (cV 0) (cI 2)) (cI 1))) (sSeq (sAsg (tgSub (cV 0) (cI 1)) (cBin fMod (cB1 (fInt) (cCons (cBin (fAdd true) (cBin (fAdd true) (cBin (fMul true) (cBin fIx (cV 0) (cI 1)) (cI 69621)) (cBin (fMul true) (cI 40503) (cBin fIx (cV 0) (cI 2)))) (cI 1)) (cNil))) (cI 2147483647))) (sSeq (sIf (cBin fGt (cBin fIx (cV 0) (cI 0)) (cI 0)) (sSeq (sAsg (tgAny 2 (tgCons (tgSub (cV 0) (cI 0)) (tgCons (tgName 4) (tgNil)))) (cB1 (fDivmod) (cCons (cBin fIx (cV 0) (cI 0)) (cCons (cV 1) (cNil))))) (sRet (cV 4))) (sNil)) (sSeq (sAsg (tgName 2) (cBin (fAdd true) (cBin fIx (cV 0) (cI 1)) (cI 12345))) (sSeq (sAsg (tgName 3) (cBin fMod (cB1 (fInt) (cCons (cBin (fAdd true) (cBin (fMul true) (cV 2) (cBin fIx (cV 0) (cI 1))) (cBin fIx (cV 0) (cI 2))) (cNil))) (cI 2147483629))) (sRet (cBin fMod (cB1 (fInt) (cCons (cBin fFdv (cV 3) (cI 256)) (cNil))) (cV 1)))))))
noncomputable def m__law_draw : Fn := runF 5 b__law_draw
noncomputable def b__law_of : CS := sRet (cBin fIx (cV 1) (cCall 2 false m__law_draw (cCons (cV 0) (cCons (cB1 (fLen) (cCons (cV 1) (cNil))) (cNil)))))
noncomputable def m__law_of : Fn := runF 2 b__law_of
noncomputable def b__law_table : CS := sSeq (sAsg (tgName 2) (cLst false (cCons (cLst true (cCons (cS "012") (cCons (cS "120") (cCons (cS "201") (cCons (cS "210") (cCons (cS "102") (cCons (cS "000") (cCons (cS "111") (cCons (cS "001") (cCons (cS "122") (cCons (cS "020") (cNil)))))))))))) (cNil)))) (sSeq (sExp (cMt tyL fAppend (cV 2) (cCons (cLst true (cCons (cS "012112222") (cCons (cS "000011012") (cCons (cS "012120201") (cCons (cS "120220000") (cCons (cS "000111222") (cCons (cS "012012012") (cNil)))))))) cNil))) (sSeq (sAsg (tgSub (cV 2) (cI 1)) (cBin (fAdd true) (cBin fIx (cV 2) (cI 1)) (cLst true (cCons (cS "000000012") (cCons (cS "021102210") (cNil)))))) (sSeq (sIf (cAnd (cBin fLt (cV 1) (cI 3)) (cBin fEq (cCall 2 false m__law_draw (cCons (cV 0) (cCons (cI 2) (cNil)))) (cI 0))) (sRet (cCall 2 true m__law_of (cCons (cV 0) (cCons (cBin fIx (cV 2) (cBin fSub (cV 1) (cI 1))) (cNil))))) (sNil)) (sRet (cMt tyS fJoin (cS "") (cCons (cLc true [3] (ciR1 (cBin fIx (cLst true (cCons (cI 3) (cCons (cI 9) (cCons (cI 27) (cNil))))) (cBin fSub (cV 1) (cI 1)))) (tgName 3) (cYes) (cB1 (fStr) (cCons (cCall 2 false m__law_draw (cCons (cV 0) (cCons (cI 3) (cNil)))) (cNil)))) cNil))))))
noncomputable def m__law_table : Fn := runF 4 b__law_table
noncomputable def b_size_of : CS := sSeq (sAsg (tgName 1) (cI 1)) (sSeq (sFor (ciR1 (cV 0)) (tgName 2) (sAsg (tgName 1) (cBin (fMul true) (cV 1) (cI 3)))) (sRet (cV 1)))
noncomputable def m_size_of : Fn := runF 3 b_size_of
noncomputable def b_is_table : CS := sSeq (sIf (cOr (cNot (cTru (cIsi "str" (cV 0)))) (cBin fNotIn (cB1 (fLen) (cCons (cV 0) (cNil))) (cLc true [2] (ciR1 (cK g_MOST_PLACES)) (tgName 2) (cYes) (cCall 1 false m_size_of (cCons (cBin (fAdd true) (cV 2) (cI 1)) (cNil)))))) (sRet (cB false)) (sNil)) (sRet (cB1 (fAll) (cCons (cLcV true [1] (cV 0) (tgName 1) (cYes) (cBin fIn (cV 1) (cK g_DIGITS))) (cNil))))
noncomputable def m_is_table : Fn := runF 3 b_is_table
noncomputable def b_check_table : CS := sIf (cNot (cTru (cCall 1 false m_is_table (cCons (cV 0) (cNil))))) (sRaiseX 2 "given" (cV 0)) (sNil)
noncomputable def m_check_table : Fn := runF 1 b_check_table
noncomputable def b_all_arguments : CS := sSeq (sAsg (tgName 1) (cLst true (cCons (cTup (cNil)) (cNil)))) (sSeq (sFor (ciR1 (cV 0)) (tgName 2) (sAsg (tgName 1) (cLc2 true [3, 4] [4] (ciV (cV 1)) (tgName 3) (cYes) (ciR1 (cI 3)) (tgName 4) (cYes) (cTup (cStar (cV 3) (cCons (cV 4) (cNil))))))) (sRet (cV 1)))
noncomputable def m_all_arguments : Fn := runF 5 b_all_arguments
noncomputable def b_places_of : CS := sRet (cBin fIx (cLc true [1] (ciR1 (cK g_MOST_PLACES)) (tgName 1) (cBin fEq (cCall 1 false m_size_of (cCons (cBin (fAdd true) (cV 1) (cI 1)) (cNil))) (cB1 (fLen) (cCons (cV 0) (cNil)))) (cBin (fAdd true) (cV 1) (cI 1))) (cI 0))
noncomputable def m_places_of : Fn := runF 2 b_places_of
noncomputable def b_index_of : CS := sSeq (sAsg (tgName 1) (cI 0)) (sSeq (sForV (cV 0) (tgName 2) (sAsg (tgName 1) (cBin (fAdd true) (cBin (fMul true) (cI 3) (cV 1)) (cV 2)))) (sRet (cV 1)))
noncomputable def m_index_of : Fn := runF 3 b_index_of
noncomputable def b_value_at : CS := sRet (cB1 (fInt) (cCons (cBin fIx (cV 0) (cCall 1 false m_index_of (cCons (cV 1) (cNil)))) (cNil)))
noncomputable def m_value_at : Fn := runF 2 b_value_at
noncomputable def b_counts_at : CS := sSeq (sFor (ciV (cCall 1 false m_all_arguments (cCons (cCall 1 false m_places_of (cCons (cV 0) (cNil))) (cNil)))) (tgName 2) (sSeq (sAsg (tgName 3) (cLc true [4] (ciR1 (cI 3)) (tgName 4) (cYes) (cTup (cStar (cSl true (cV 2) none (some (cV 1))) (cCons (cV 4) (cStar (cSl true (cV 2) (some (cBin (fAdd true) (cV 1) (cI 1))) none) (cNil))))))) (sIf (cBin fGt (cLenSet (cLcV true [5] (cV 3) (tgName 5) (cYes) (cCall 2 false m_value_at (cCons (cV 0) (cCons (cV 5) (cNil)))))) (cI 1)) (sRet (cB true)) (sNil)))) (sRet (cB false))
noncomputable def m_counts_at : Fn := runF 6 b_counts_at
noncomputable def b_counting_of : CS := sRet (cB1 (fTuple) (cCons (cLc true [1] (ciR1 (cCall 1 false m_places_of (cCons (cV 0) (cNil)))) (tgName 1) (cTru (cCall 2 false m_counts_at (cCons (cV 0) (cCons (cV 1) (cNil))))) (cV 1)) (cNil)))
noncomputable def m_counting_of : Fn := runF 2 b_counting_of
noncomputable def b_counting : CS := sSeq (sExp (cCall 1 false m_check_table (cCons (cV 0) (cNil)))) (sRet (cCall 1 true m_counting_of (cCons (cV 0) (cNil))))
noncomputable def m_counting : Fn := runF 1 b_counting
noncomputable def b_digits_of : CS := sSeq (sExp (cCall 1 false m_check_table (cCons (cV 0) (cNil)))) (sRet (cB1 (fTuple) (cCons (cLc true [1] (ciV (cK g_DIGITS)) (tgName 1) (cYes) (cB1 (fLen) (cCons (cLcV true [2] (cV 0) (tgName 2) (cBin fEq (cV 2) (cV 1)) (cV 2)) (cNil)))) (cNil))))
noncomputable def m_digits_of : Fn := runF 3 b_digits_of
noncomputable def b_fixed : CS := sSeq (sExp (cCall 1 false m_check_table (cCons (cV 0) (cNil)))) (sSeq (sAsg (tgName 1) (cCall 1 false m_places_of (cCons (cV 0) (cNil)))) (sRet (cB1 (fTuple) (cCons (cLc true [2] (ciR1 (cI 3)) (tgName 2) (cBin fEq (cCall 2 false m_value_at (cCons (cV 0) (cCons (cBin (fMul true) (cTup (cCons (cV 2) (cNil))) (cV 1)) (cNil)))) (cV 2)) (cV 2)) (cNil)))))
noncomputable def m_fixed : Fn := runF 3 b_fixed
noncomputable def b_is_full : CS := sRet (cB1 (fAll) (cCons (cLc true [1] (ciV (cK g_DIGITS)) (tgName 1) (cYes) (cBin fIn (cV 1) (cV 0))) (cNil)))
noncomputable def m_is_full : Fn := runF 2 b_is_full
noncomputable def b_is_onto : CS := sSeq (sExp (cCall 1 false m_check_table (cCons (cV 0) (cNil)))) (sRet (cCall 1 true m_is_full (cCons (cV 0) (cNil))))
noncomputable def m_is_onto : Fn := runF 1 b_is_onto
noncomputable def b_places : CS := sSeq (sExp (cCall 1 false m_check_table (cCons (cV 0) (cNil)))) (sRet (cCall 1 true m_places_of (cCons (cV 0) (cNil))))
noncomputable def m_places : Fn := runF 1 b_places
noncomputable def b_is_integer : CS := sRet (cAnd (cIsi "int" (cV 0)) (cNot (cIsi "bool" (cV 0))))
noncomputable def m_is_integer : Fn := runF 1 b_is_integer
noncomputable def b_is_between : CS := sRet (cAnd (cCall 1 false m_is_integer (cCons (cV 0) (cNil))) (cChain fLe fLe (cV 1) (cV 0) (cV 2)))
noncomputable def m_is_between : Fn := runF 3 b_is_between
noncomputable def b_are_arguments : CS := sRet (cAnd (cIsi "tuple" (cV 1)) (cAnd (cBin fEq (cB1 (fLen) (cCons (cV 1) (cNil))) (cV 0)) (cB1 (fAll) (cCons (cLcV true [2] (cV 1) (tgName 2) (cYes) (cCall 3 false m_is_between (cCons (cV 2) (cCons (cI 0) (cCons (cI 2) (cNil)))))) (cNil)))))
noncomputable def m_are_arguments : Fn := runF 3 b_are_arguments
noncomputable def b_value : CS := sSeq (sExp (cCall 1 false m_check_table (cCons (cV 0) (cNil)))) (sSeq (sIf (cNot (cTru (cCall 2 false m_are_arguments (cCons (cCall 1 false m_places_of (cCons (cV 0) (cNil))) (cCons (cV 1) (cNil)))))) (sRaiseX 4 "given" (cV 1)) (sNil)) (sRet (cCall 2 true m_value_at (cCons (cV 0) (cCons (cV 1) (cNil))))))
noncomputable def m_value : Fn := runF 2 b_value
noncomputable def b__law_spring : CS := sSeq (sAsg (tgName 2) (cIf (cBin fLt (cV 1) (cB1 (fLen) (cCons (cV 0) (cNil)))) (cBin fIx (cV 0) (cV 1)) (cBin (fAdd true) (cBin (fMul true) (cI 7) (cV 1)) (cI 2)))) (sSeq (sAsg (tgName 3) (cBin (fAdd true) (cI 90001) (cBin (fMul true) (cI 7919) (cV 1)))) (sSeq (sFor (ciV (cBin (fAdd true) (cSl true (cV 0) none (some (cI 8))) (cLst true (cCons (cV 2) (cNil))))) (tgName 4) (sAsg (tgName 3) (cBin fMod (cB1 (fInt) (cCons (cBin (fAdd true) (cBin (fAdd true) (cBin (fMul true) (cV 3) (cI 48271)) (cB1 (fInt) (cCons (cV 4) (cNil)))) (cBin (fMul true) (cI 11) (cV 1))) (cNil))) (cI 2147483647)))) (sRet (cLst false (cCons (cIf (cOr (cBin fLt (cV 2) (cI 0)) (cBin fGe (cV 2) (cBin fPow (cI 10) (cI 18)))) (cB1 (fAbs) (cCons (cV 2) (cNil))) (cI 0)) (cCons (cV 3) (cCons (cI 0) (cNil))))))))
noncomputable def m__law_spring : Fn := runF 5 b__law_spring
noncomputable def b_table_from : CS := sRet (cMt tyS fJoin (cS "") (cCons (cLcV true [1] (cV 0) (tgName 1) (cYes) (cB1 (fStr) (cCons (cV 1) (cNil)))) cNil))
noncomputable def m_table_from : Fn := runF 2 b_table_from
noncomputable def b_all_tables : CS := sRet (cB1 (fTuple) (cCons (cLc true [0] (ciV (cCall 1 false m_all_arguments (cCons (cI 3) (cNil)))) (tgName 0) (cYes) (cCall 1 false m_table_from (cCons (cV 0) (cNil)))) (cNil)))
noncomputable def m_all_tables : Fn := runF 1 b_all_tables
end T3
namespace T3
open PySem PySem.Spec PyProof.Rows L2
abbrev spr (p q r : Int) : O := .lst [.int p, .int q, .int r]
theorem mulOk_r {a b : Int} (h1 : -18446744073709551616 < b) (h2 : b < 18446744073709551616) : mulOk a b = true := by simp [mulOk, h1, h2]
theorem mulOk_l {a b : Int} (h1 : -18446744073709551616 < a) (h2 : a < 18446744073709551616) : mulOk a b = true := by simp [mulOk, h1, h2]
@[simp] theorem mulOk_m {a x : Int} : mulOk a (x % 2147483647) = true := mulOk_r (by have := Int.emod_nonneg x (show (2147483647 : Int) ≠ 0 by omega); omega) (by have := Int.emod_lt_of_pos x (show (0 : Int) < 2147483647 by omega); omega)
theorem c_draw (p q r n : Int) (h0 : 0 < n) (h1 : n < 1073741824) : ∃ d p' q' r' : Int, 0 ≤ d ∧ d < n ∧ m__law_draw [.ref 0, .val (.int n)] [spr p q r] = .ok (.val (.int d)) [spr p' q' r'] := by
  by_cases hp : 0 < p
  · refine ⟨p % n, p / n, (q * 69621 + 40503 * (r + 1) + 1) % 2147483647, r + 1, Int.emod_nonneg _ (by omega), Int.emod_lt_of_pos _ h0, ?_⟩
    unfold m__law_draw b__law_draw runF
    simp [mulOk_l, mulOk_r, h0, h1, ixN, hp]
  · refine ⟨?d, p, (q * 69621 + 40503 * (r + 1) + 1) % 2147483647, r + 1, ?_, ?_, ?e⟩
    case e =>
      unfold m__law_draw b__law_draw runF
      simp [mulOk_l, mulOk_r, h0, h1, ixN, hp]
      rfl
    · exact Int.emod_nonneg _ (by omega)
    · exact Int.emod_lt_of_pos _ h0

/-! ### calls -/
/-- what a def gives, as frozen data -/
noncomputable def gives (r : Res) : Option D := match r with
  | .ok (.val d) _ => some d
  | .ok (.ref j) S => S[j]?.bind frzO
  | _ => none
theorem vals_refs : ∀ {ds : List D}, refsOf (ds.map A.val) = []
  | [] => rfl
  | d :: r => vals_refs (ds := r)
theorem vals_renum : ∀ {ds : List D} {k : Nat}, renum k (ds.map A.val) = ds.map A.val
  | [], _ => rfl
  | d :: r, k => congrArg (A.val d :: ·) (vals_renum (ds := r))
/-- a call of values -/
theorem call_val {f : Fn} {xs : List A} {ds : List D} {d : D} {S : Store} (hx : xs = ds.map A.val) (h : gives (f xs []) = some d) : callIn false f xs S = .ok (.val d) S := by
  subst hx
  unfold callIn
  rw [vals_refs, if_pos List.nodup_nil]
  simp only [getAll, List.all_nil, if_true]
  rw [vals_renum]
  unfold gives at h
  cases hr : f (ds.map A.val) [] with
  | bad => rw [hr] at h; cases h
  | exc e S1 => rw [hr] at h; cases h
  | ok x S1 =>
    rw [hr] at h
    cases x with
    | val d' => cases h; simp [back, putAll]
    | ref j =>
      simp only [Option.bind_eq_some_iff] at h
      obtain ⟨o, h1, h2⟩ := h
      simp [back, putAll, h1, h2]
/-- .. whose new list is adopted -/
theorem call_new {f : Fn} {xs : List A} {ds : List D} {es : List D} {S S1 : Store} {j : Nat} (hx : xs = ds.map A.val) (h : f xs [] = .ok (.ref j) S1) (h1 : S1[j]? = some (.lst es)) : callIn true f xs S = .ok (.ref S.length) (S ++ [.lst es]) := by
  subst hx
  unfold callIn
  rw [vals_refs, if_pos List.nodup_nil]
  simp only [getAll, List.all_nil, if_true]
  rw [vals_renum, h]
  simp [back, putAll, h1, flatO]
/-- a call with one thing of the store ahead of values -/
theorem call_one {f : Fn} {ds : List D} {d : D} {S S1 : Store} {i : Nat} {o o' : O} (hi : S[i]? = some o) (ho : flatO o = true) (h : f (.ref 0 :: ds.map A.val) [o] = .ok (.val d) (o' :: S1)) (ho' : flatO o' = true) : callIn false f (.ref i :: ds.map A.val) S = .ok (.val d) (S.set i o') := by
  unfold callIn
  have e : refsOf (.ref i :: ds.map A.val) = [i] := by simp [vals_refs]
  rw [e, if_pos (by simp)]
  simp only [getAll, hi, List.all_cons, ho, List.all_nil, Bool.and_true, if_true]
  have e2 : renum 0 (.ref i :: ds.map A.val) = .ref 0 :: ds.map A.val := by simp [vals_renum]
  rw [e2, h]
  simp [back, ho', putAll]
theorem call_one1 {f : Fn} {d : D} {S S1 : Store} {i : Nat} {o o' : O} (hi : S[i]? = some o) (ho : flatO o = true) (h : f [.ref 0] [o] = .ok (.val d) (o' :: S1)) (ho' : flatO o' = true) : callIn false f [.ref i] S = .ok (.val d) (S.set i o') := call_one (ds := []) hi ho h ho'
theorem call_one2 {f : Fn} {d e1 : D} {S S1 : Store} {i : Nat} {o o' : O} (hi : S[i]? = some o) (ho : flatO o = true) (h : f [.ref 0, .val e1] [o] = .ok (.val d) (o' :: S1)) (ho' : flatO o' = true) : callIn false f [.ref i, .val e1] S = .ok (.val d) (S.set i o') := call_one (ds := [e1]) hi ho h ho'
/-! ### loops -/
theorem forL_inv {body : D → CS} {ds : List D} {ρ : Slots} {S : Store} (P : Nat → Slots → Store → Prop) (h0 : P 0 ρ S) (hs : ∀ i d ρ S, ds[i]? = some d → P i ρ S → ∃ ρ' S', body d ρ S = .nx ρ' S' ∧ P (i + 1) ρ' S') : ∃ ρ' S', forL body ds ρ S = .nx ρ' S' ∧ P ds.length ρ' S' := by
  induction ds generalizing ρ S P with
  | nil => exact ⟨ρ, S, rfl, h0⟩
  | cons d r ih =>
    obtain ⟨ρ1, S1, e1, p1⟩ := hs 0 d ρ S rfl h0
    obtain ⟨ρ2, S2, e2, p2⟩ := ih (P := fun i => P (i + 1)) p1 (fun i d ρ S hi hp => hs (i + 1) d ρ S hi hp)
    exact ⟨ρ2, S2, by simp only [forL, e1]; exact e2, p2⟩
theorem forL_q {body : D → CS} {ds : List D} {ρ : Slots} {S : Store} {q : SRes} (hq : forL body ds ρ S = q) (P : Nat → Slots → Store → Prop) (h0 : P 0 ρ S) (hs : ∀ i d ρ S, ds[i]? = some d → P i ρ S → ∃ ρ' S', body d ρ S = .nx ρ' S' ∧ P (i + 1) ρ' S') : ∃ ρ' S', q = .nx ρ' S' ∧ P ds.length ρ' S' := by
  obtain ⟨ρ', S', e, p⟩ := forL_inv P h0 hs
  exact ⟨ρ', S', hq.symm.trans e, p⟩
/-- a pure comprehension -/
theorem lcGo_map {f : Elm} {g : D → D} {S : Store} : ∀ {ds : List D}, (∀ d ∈ ds, f d S = some (some (g d), S)) → lcGo f ds S = some (ds.map g, S)
  | [], _ => rfl
  | d :: r, h => by
    simp only [lcGo, h d List.mem_cons_self, lcGo_map fun x hx => h x (List.mem_cons_of_mem _ hx), List.map_cons]
theorem lcGo_filter {f : Elm} {p : D → Bool} {g : D → D} {S : Store} : ∀ {ds : List D}, (∀ d ∈ ds, f d S = some (if p d then some (g d) else none, S)) → lcGo f ds S = some ((ds.filter p).map g, S)
  | [], _ => rfl
  | d :: r, h => by
    have ih := lcGo_filter (ds := r) fun x hx => h x (List.mem_cons_of_mem _ hx)
    simp only [lcGo, h d List.mem_cons_self]
    by_cases hp : p d = true
    · simp [hp, ih]
    · simp [hp, ih]
/-- one that changes the store -/
theorem lcGo_inv {f : Elm} {S : Store} (P : Nat → List D → Store → Prop) : ∀ {ds : List D}, P 0 [] S → (∀ i d acc S, ds[i]? = some d → P i acc S → ∃ y S', f d S = some (some y, S') ∧ P (i + 1) (acc ++ [y]) S') → ∃ ys S', lcGo f ds S = some (ys, S') ∧ P ds.length ys S' := by
  have go : ∀ (ds : List D) (k : Nat) (acc : List D) (S : Store), P k acc S → (∀ i d acc S, ds[i]? = some d → P (k + i) acc S → ∃ y S', f d S = some (some y, S') ∧ P (k + i + 1) (acc ++ [y]) S') → ∃ ys S', lcGo f ds S = some (ys, S') ∧ P (k + ds.length) (acc ++ ys) S' := by
    intro ds
    induction ds with
    | nil => exact fun k acc S h _ => ⟨[], S, rfl, by simpa using h⟩
    | cons d r ih =>
      intro k acc S h hs
      obtain ⟨y, S1, e1, p1⟩ := hs 0 d acc S rfl h
      obtain ⟨ys, S2, e2, p2⟩ := ih (k + 1) (acc ++ [y]) S1 p1 fun i d acc S hi hp => by
        have := hs (i + 1) d acc S hi (by rw [show k + (i + 1) = k + 1 + i by omega]; exact hp)
        rw [show k + (i + 1) + 1 = k + 1 + i + 1 by omega] at this
        exact this
      refine ⟨y :: ys, S2, by simp only [lcGo, e1, e2], ?_⟩
      rw [List.length_cons, show k + (r.length + 1) = k + 1 + r.length by omega]
      simpa using p2
  intro ds h hs
  obtain ⟨ys, S', e, p⟩ := go ds 0 [] S h fun i d acc S hi hp => by
    have := hs i d acc S hi (by simpa using hp)
    simpa using this
  exact ⟨ys, S', e, by simpa using p⟩
end T3
namespace T3
open PySem PySem.Spec PyProof.Rows L2
/-! ### a text of digits -/
noncomputable def tx (t : List Nat) : Str := ⟨(t.map (48 + ·)).toArray⟩
noncomputable def sg (n : Nat) : Str := ⟨#[48 + n]⟩
noncomputable def Dg (t : List Nat) : Prop := ∀ x ∈ t, x < 3
noncomputable def nD (n : Nat) : D := .int n
noncomputable def tupN (a : List Nat) : D := .tup (a.map nD)
theorem tx_list (t : List Nat) : (tx t).cps.toList = t.map (48 + ·) := by simp [tx]
theorem tx_len (t : List Nat) : (tx t).length = t.length := by simp [tx, Str.length]
theorem szOk_le {n : Nat} (h : n ≤ 1000) : szOk n = true := decide_eq_true (Nat.le_trans h (by decide))
theorem int_sg {n : Nat} (h : n < 3) : PySem.intText? (sg n) = some (n : Int) := by
  match n, h with
  | 0, _ => decide +kernel
  | 1, _ => decide +kernel
  | 2, _ => decide +kernel
theorem str_sg {n : Nat} (h : n < 3) : (Str.ofString (toString (n : Int)) : Str) = sg n := by
  match n, h with
  | 0, _ => decide +kernel
  | 1, _ => decide +kernel
  | 2, _ => decide +kernel
/-- count of one sign -/
theorem occ_size (x : Str) (c : Nat) (limit : Nat) : ∀ (k a free : Nat) (fnd : Array Nat), free ≤ a → fnd.size ≤ a → a + k ≤ limit →
    (forIn (List.range' a k) (fnd, free) (PySem.StrLaws.occBody x ⟨#[c]⟩ x.length limit)).run.fst.size = fnd.size + (List.range' a k).countP (fun i => x.cps.toList[i]? == some c)
  | 0, a, free, fnd, _, _, _ => by simp [List.range']
  | k + 1, a, free, fnd, h1, h2, h3 => by
    rw [List.range'_succ, List.forIn_cons, List.countP_cons]
    unfold PySem.StrLaws.occBody
    by_cases hc : x.cps.toList[a]? = some c
    · have q := (PySem.StrLaws.subAt_one x c a).mpr hc
      rw [if_pos ⟨⟨⟨by show fnd.size < limit; omega, h1⟩, q.1⟩, q.2⟩]
      have ih := occ_size x c limit k (a + 1) (a + 1) (fnd.push a) (Nat.le_refl _) (by simp; omega) (by omega)
      have e : (⟨#[c]⟩ : Str).length = 1 := rfl
      rw [e]
      refine Eq.trans ih ?_
      rw [Array.size_push, hc]
      simp
      omega
    · have q : ¬ (((fnd.size < limit ∧ free ≤ a) ∧ a + (⟨#[c]⟩ : Str).length ≤ x.length) ∧ Builtin.Str.subAt x ⟨#[c]⟩ a = true) := fun z => hc ((PySem.StrLaws.subAt_one x c a).mp ⟨z.1.2, z.2⟩)
      rw [if_neg q]
      have ih := occ_size x c limit k (a + 1) free fnd (by omega) (by omega) (by omega)
      refine Eq.trans ih ?_
      rw [if_neg (by simpa using hc)]
      omega
theorem countP_at (c : Nat) : ∀ (l : List Nat) (m : Nat), l.length ≤ m → (List.range' 0 m).countP (fun i => l[i]? == some c) = l.count c
  | [], m, _ => by simp
  | y :: r, 0, h => by simp at h
  | y :: r, m + 1, h => by
    have ih := countP_at c r m (by simpa using h)
    have e : List.range' (0 + 1) m = (List.range' 0 m).map (fun x => 1 + x) := by
      have := List.map_add_range' (a := 1) 0 m 1
      simpa using this.symm
    rw [List.range'_succ, List.countP_cons, e, List.countP_map]
    have e2 : ((fun i => (y :: r)[i]? == some c) ∘ fun x => 1 + x) = fun i => r[i]? == some c := by
      funext i
      show ((y :: r)[1 + i]? == some c) = _
      rw [Nat.add_comm, List.getElem?_cons_succ]
    rw [e2, ih, List.count_cons]
    by_cases hy : y = c
    · simp [hy]
    · simp [hy]
theorem count_sg (x : Str) (c : Nat) : Txt.count x ⟨#[c]⟩ = (x.cps.toList.count c : Nat) := by
  unfold Txt.count
  rw [PySem.StrLaws.occ_eq]
  have h := occ_size x c (x.length + 1) (x.length + 1) 0 0 #[] (Nat.le_refl _) (Nat.le_refl _) (by omega)
  have h2 := countP_at c x.cps.toList (x.length + 1) (by simp [Str.length])
  rw [Nat.sub_zero, Array.length_toList]
  rw [h2] at h
  have h' := congrArg (fun n : Nat => (n : Int)) h
  simpa using h'
/-! ### the place of an argument -/
noncomputable def ix (a : List Nat) : Nat := a.foldl (fun n x => 3 * n + x) 0
theorem ix_snoc (a : List Nat) (x : Nat) : ix (a ++ [x]) = 3 * ix a + x := by simp [ix]
theorem ix_acc : ∀ (a : List Nat) (n : Nat), Dg a → a.foldl (fun n x => 3 * n + x) n < (n + 1) * 3 ^ a.length
  | [], n, _ => by simp
  | x :: r, n, h => by
    have h2 : x < 3 := h x (by simp)
    have ih := ix_acc r (3 * n + x) fun y hy => h y (List.mem_cons_of_mem _ hy)
    rw [List.foldl_cons, List.length_cons, Nat.pow_succ]
    refine Nat.lt_of_lt_of_le ih ?_
    rw [Nat.mul_comm (3 ^ r.length) 3, ← Nat.mul_assoc]
    exact Nat.mul_le_mul_right _ (by omega)
theorem ix_lt (a : List Nat) (h : Dg a) : ix a < 3 ^ a.length := by
  have := ix_acc a 0 h
  rw [Nat.zero_add, Nat.one_mul] at this
  exact this
/-! ### the loop that makes the index: both texts alike -/
theorem mul3 {n : Nat} : mulOk 3 (n : Int) = true := mulOk_l (by omega) (by omega)
theorem map_get {a : List Nat} {i : Nat} {d : D} (h : (a.map nD)[i]? = some d) : ∃ x, a[i]? = some x ∧ d = nD x := by
  rw [List.getElem?_map] at h
  cases e : a[i]? with
  | none => rw [e] at h; cases h
  | some x => rw [e] at h; cases h; exact ⟨x, rfl, rfl⟩
theorem ix_take {a : List Nat} {i x : Nat} (h : a[i]? = some x) : ix (a.take (i + 1)) = 3 * ix (a.take i) + x := by
  have : a.take (i + 1) = a.take i ++ [x] := by
    rw [List.take_add_one, h]
    rfl
  rw [this, ix_snoc]
noncomputable def gd (t : List Nat) (k : Nat) : Nat := t[k]?.getD 0
theorem ix_tx {t : List Nat} {k : Nat} {S : Store} (h : k < t.length) (hl : t.length ≤ 27) : fIx (.val (.str (tx t))) (.val (nD k)) S = .ok (.val (.str (sg (gd t k)))) S := by
  have hz : szOk (tx t).length = true := by rw [tx_len]; exact szOk_le (by omega)
  unfold nD
  rw [ix_str, if_pos hz, tx_list, List.length_map, ixN_nat h]
  simp [List.getElem?_eq_getElem h, sg, gd]
theorem int_sgS {x : Nat} {S : Store} (h : x < 3) : fInt [.val (.str (sg x))] S = .ok (.val (nD x)) S := by
  rw [int_str, int_sg h]
  rfl
theorem dg_get {t : List Nat} (ht : Dg t) (k : Nat) : gd t k < 3 := by
  unfold gd
  cases e : t[k]? with
  | none => decide
  | some x => exact ht x (List.mem_of_getElem? e)
theorem c_index (a : List Nat) (S : Store) : m_index_of [.val (tupN a)] S = .ok (.val (nD (ix a))) S := by
  unfold m_index_of b_index_of runF tupN
  simp
  generalize hq : forL _ _ _ _ = q
  obtain ⟨ρ', S', rfl, z, rfl, rfl⟩ := forL_q hq (fun i ρ S1 => ∃ z, ρ = [some (.val (.tup (a.map nD))), some (.val (nD (ix (a.take i)))), z] ∧ S1 = S) ⟨none, rfl, rfl⟩ (by
    rintro i d ρ S1 hd ⟨z, rfl, rfl⟩
    obtain ⟨x, hx, rfl⟩ := map_get hd
    simp [nD, mul3, ix_take hx])
  simp
theorem c_at (t a : List Nat) (S : Store) (ht : Dg t) (ha : ix a < t.length) (hl : t.length ≤ 27) : m__law_at [.val (.str (tx t)), .val (tupN a)] S = .ok (.val (nD (gd t (ix a)))) S := by
  unfold m__law_at b__law_at runF tupN
  simp
  generalize hq : forL _ _ _ _ = q
  obtain ⟨ρ', S', rfl, z, rfl, rfl⟩ := forL_q hq (fun i ρ S1 => ∃ z, ρ = [some (.val (.str (tx t))), some (.val (.tup (a.map nD))), some (.val (nD (ix (a.take i)))), z] ∧ S1 = S) ⟨none, rfl, rfl⟩ (by
    rintro i d ρ S1 hd ⟨z, rfl, rfl⟩
    obtain ⟨x, hx, rfl⟩ := map_get hd
    simp [nD, mul3, ix_take hx])
  have h1 : ∀ S, fIx (.val (.str (tx t))) (.val (nD (ix a))) S = .ok (.val (.str (sg (gd t (ix a))))) S := fun S => ix_tx ha hl
  simp [h1, int_sgS (dg_get ht _)]
theorem c_value_at (t a : List Nat) (S : Store) (ht : Dg t) (ha : ix a < t.length) (hl : t.length ≤ 27) : m_value_at [.val (.str (tx t)), .val (tupN a)] S = .ok (.val (nD (gd t (ix a)))) S := by
  unfold m_value_at b_value_at runF
  have h0 : ∀ S, callIn false m_index_of [.val (tupN a)] S = .ok (.val (nD (ix a))) S := fun S => call_val (ds := [tupN a]) rfl (by rw [c_index]; rfl)
  have h1 : ∀ S, fIx (.val (.str (tx t))) (.val (nD (ix a))) S = .ok (.val (.str (sg (gd t (ix a))))) S := fun S => ix_tx ha hl
  simp [h0, h1, int_sgS (dg_get ht _)]
/-! ### sizes -/
structure Tb (t : List Nat) (n : Nat) : Prop where
  dg : Dg t
  len : t.length = 3 ^ n
  n1 : 1 ≤ n
  n3 : n ≤ 3
theorem Tb.cases {t : List Nat} {n : Nat} (h : Tb t n) : n = 1 ∨ n = 2 ∨ n = 3 := by have := h.n1; have := h.n3; omega
theorem Tb.le {t : List Nat} {n : Nat} (h : Tb t n) : t.length ≤ 27 := by
  rw [h.len]
  rcases h.cases with e | e | e <;> subst e <;> decide
theorem c_size (n : Nat) (h : n ≤ 3) (S : Store) : gives (m_size_of [.val (nD n)] []) = some (nD (3 ^ n)) := by
  match n, h with
  | 0, _ => rfl
  | 1, _ => rfl
  | 2, _ => rfl
  | 3, _ => rfl
noncomputable def allA : Nat → List (List Nat)
  | 0 => [[]]
  | n + 1 => (allA n).flatMap fun a => [a ++ [0], a ++ [1], a ++ [2]]
noncomputable def lstA (n : Nat) : D := .lst ((allA n).map tupN)
theorem c_args (n : Nat) (h : n ≤ 3) : gives (m_all_arguments [.val (nD n)] []) = some (lstA n) := by
  match n, h with
  | 0, _ => rfl
  | 1, _ => rfl
  | 2, _ => rfl
  | 3, _ => rfl
theorem c_tuples (n : Nat) (h : n ≤ 3) : gives (m__law_tuples [.val (nD n)] []) = some (lstA n) := by
  match n, h with
  | 0, _ => rfl
  | 1, _ => rfl
  | 2, _ => rfl
  | 3, _ => rfl
end T3
namespace T3
open PySem PySem.Spec PyProof.Rows L2
/-! ### lists of bools and ints -/
@[simp] theorem boolsOf_map {α : Type} (p : α → Bool) : ∀ l : List α, boolsOf (l.map fun x => D.bl (p x)) = some (l.map p)
  | [] => rfl
  | x :: r => by
    rw [List.map_cons, List.map_cons]
    simp only [boolsOf, boolsOf_map p r, Option.map_some]
@[simp] theorem intsOf_map {α : Type} (p : α → Int) : ∀ l : List α, intsOf (l.map fun x => D.int (p x)) = some (l.map p)
  | [] => rfl
  | x :: r => by
    rw [List.map_cons, List.map_cons]
    simp only [intsOf, intsOf_map p r, Option.map_some]
@[simp] theorem strsOf_map {α : Type} (p : α → Str) : ∀ l : List α, strsOf (l.map fun x => D.str (p x)) = some (l.map p)
  | [] => rfl
  | x :: r => by
    rw [List.map_cons, List.map_cons]
    simp only [strsOf, strsOf_map p r, Option.map_some]
theorem signs_tx (t : List Nat) : signsD (tx t) = t.map fun x => D.str (sg x) := by
  unfold signsD
  rw [tx_list, List.map_map]
  rfl
theorem lcGo_on {α : Type} {f : Elm} {g : α → D} {h : α → D} {S : Store} {l : List α} (hf : ∀ x ∈ l, f (h x) S = some (some (g x), S)) : lcGo f (l.map h) S = some (l.map g, S) := by
  induction l with
  | nil => rfl
  | cons x r ih =>
    rw [List.map_cons, List.map_cons]
    simp only [lcGo, hf x List.mem_cons_self, ih fun y hy => hf y (List.mem_cons_of_mem _ hy)]
theorem lcGo_if {α : Type} {f : Elm} {p : α → Bool} {g : α → D} {h : α → D} {S : Store} {l : List α} (hf : ∀ x ∈ l, f (h x) S = some (if p x then some (g x) else none, S)) : lcGo f (l.map h) S = some ((l.filter p).map g, S) := by
  induction l with
  | nil => rfl
  | cons x r ih =>
    rw [List.map_cons]
    have i := ih fun y hy => hf y (List.mem_cons_of_mem _ hy)
    simp only [lcGo, hf x List.mem_cons_self]
    by_cases hp : p x = true
    · simp [hp, i]
    · simp [hp, i]
theorem range_nD (n : Nat) : rangeD 0 n = (List.range n).map nD := by
  unfold rangeD nD
  simp
@[simp] theorem szOk_s {n : Nat} (h : n ≤ 16000000) : szOk n = true := decide_eq_true h
/-! ### is a table -/
theorem in_dig {x : Nat} {S : Store} (h : x < 3) : fIn (.val (.str (sg x))) (.val g_DIGITS) S = .ok (.val (.bl true)) S := by
  match x, h with
  | 0, _ => rfl
  | 1, _ => rfl
  | 2, _ => rfl
theorem cs1 (S : Store) : callIn false m_size_of [.val (.int 1)] S = .ok (.val (.int 3)) S := call_val (ds := [.int 1]) rfl rfl
theorem cs2 (S : Store) : callIn false m_size_of [.val (.int 2)] S = .ok (.val (.int 9)) S := call_val (ds := [.int 2]) rfl rfl
theorem cs3 (S : Store) : callIn false m_size_of [.val (.int 3)] S = .ok (.val (.int 27)) S := call_val (ds := [.int 3]) rfl rfl
theorem rg3 : rangeD 0 3 = [.int 0, .int 1, .int 2] := rfl
variable {t : List Nat} {n : Nat}
theorem len3 (h : Tb t n) : fNotIn (.val (.int (t.length : Nat))) (.val (.lst [.int 3, .int 9, .int 27])) = fun S => .ok (.val (.bl false)) S := by
  funext S
  rw [h.len]
  rcases h.cases with e | e | e <;> subst e <;> rfl
theorem all_true (l : List Nat) (S : Store) : fAll [.val (.lst (l.map fun _ => D.bl true))] S = .ok (.val (.bl true)) S := by
  rw [all_lst, boolsOf_map (fun _ => true)]
  simp
theorem c_is_table (h : Tb t n) (S : Store) : m_is_table [.val (.str (tx t))] S = .ok (.val (.bl true)) S := by
  have hz : t.length ≤ 16000000 := by have := h.le; omega
  have key : ∀ (S : Store), lcGo (elm (tgName 1) cYes (cBin fIn (cV 1) (cK g_DIGITS)) [some (.val (.str (tx t))), none, none]) (signsD (tx t)) S = some (t.map fun _ => D.bl true, S) := fun S => by
    rw [signs_tx]
    exact lcGo_on fun x hx => by simp [in_dig (h.dg x hx)]
  unfold m_is_table b_is_table runF
  simp [tx_len, hz, g_MOST_PLACES, rg3, lcGo, cs1, cs2, cs3, len3 h, key]
theorem k_is_table (h : Tb t n) (S : Store) : callIn false m_is_table [.val (.str (tx t))] S = .ok (.val (.bl true)) S := call_val (ds := [.str (tx t)]) rfl (by rw [c_is_table h]; rfl)
theorem k_check (h : Tb t n) (S : Store) : callIn false m_check_table [.val (.str (tx t))] S = .ok (.val .non) S := by
  refine call_val (ds := [.str (tx t)]) rfl ?_
  unfold m_check_table b_check_table runF
  simp [k_is_table h, gives]
/-! ### places -/
theorem c_places (h : Tb t n) (S : Store) : m__law_places [.val (.str (tx t))] S = .ok (.val (nD n)) S := by
  have hz : t.length ≤ 16000000 := by have := h.le; omega
  have key : fIndex (.val (.lst [.int 3, .int 9, .int 27])) [.val (.int (t.length : Nat))] = fun S => .ok (.val (.int ((n - 1 : Nat) : Nat))) S := by
    funext S
    rw [h.len]
    rcases h.cases with e | e | e <;> subst e <;> rfl
  unfold m__law_places b__law_places runF
  simp [tx_len, hz, key]
  have := h.n1
  unfold nD
  congr 2
  omega
theorem eq_int {a b : Int} {S : Store} : fEq (.val (.int a)) (.val (.int b)) S = .ok (.val (.bl (a == b))) S := rfl
theorem ne_int {a b : Int} {S : Store} : fNe (.val (.int a)) (.val (.int b)) S = .ok (.val (.bl (!(a == b)))) S := rfl
theorem c_places_of (h : Tb t n) (S : Store) : m_places_of [.val (.str (tx t))] S = .ok (.val (nD n)) S := by
  have hz : t.length ≤ 16000000 := by have := h.le; omega
  unfold m_places_of b_places_of runF
  rcases h.cases with e | e | e <;> subst e <;> (have hl := h.len; simp [tx_len, hz, g_MOST_PLACES, rg3, lcGo, cs1, cs2, cs3, eq_int, hl, nD])
theorem k_places (h : Tb t n) (S : Store) : callIn false m__law_places [.val (.str (tx t))] S = .ok (.val (nD n)) S := call_val (ds := [.str (tx t)]) rfl (by rw [c_places h]; rfl)
theorem k_places_of (b : Bool) (h : Tb t n) (S : Store) : callIn b m_places_of [.val (.str (tx t))] S = .ok (.val (nD n)) S := by
  have e := call_val (f := m_places_of) (xs := [.val (.str (tx t))]) (ds := [.str (tx t)]) (d := nD n) (S := S) rfl (by rw [c_places_of h]; rfl)
  cases b with
  | false => exact e
  | true => simp [callIn, c_places_of h, back, putAll]
theorem c_P (h : Tb t n) : gives (m_places [.val (.str (tx t))] []) = some (nD n) := by
  unfold m_places b_places runF
  simp [k_check h, k_places_of true h, gives]
/-! ### arguments -/
theorem isb {x : Nat} (h : x < 3) (S : Store) : callIn false m_is_between [.val (nD x), .val (.int 0), .val (.int 2)] S = .ok (.val (.bl true)) S := by
  match x, h with
  | 0, _ => exact call_val (ds := [nD 0, .int 0, .int 2]) rfl rfl
  | 1, _ => exact call_val (ds := [nD 1, .int 0, .int 2]) rfl rfl
  | 2, _ => exact call_val (ds := [nD 2, .int 0, .int 2]) rfl rfl
theorem k_are (hn : n ≤ 1000) {a : List Nat} (ha : Dg a) (hl : a.length = n) (S : Store) : callIn false m_are_arguments [.val (nD n), .val (tupN a)] S = .ok (.val (.bl true)) S := by
  refine call_val (ds := [nD n, tupN a]) rfl ?_
  have key : ∀ (S : Store), lcGo (elm (tgName 2) cYes (cCall 3 false m_is_between (cCons (cV 2) (cCons (cI 0) (cCons (cI 2) cNil)))) [some (.val (.int (n : Nat))), some (.val (.tup (a.map nD))), none]) (a.map nD) S = some (a.map fun _ => D.bl true, S) := fun S =>
    lcGo_on fun x hx => by simp [isb (ha x hx)]
  unfold m_are_arguments b_are_arguments runF tupN
  have hz : n ≤ 16000000 := by omega
  simp [key, nD, eq_int, hl, gives, hz]
/-! ### value -/
theorem k_value_at (b : Bool) (t a : List Nat) (S : Store) (ht : Dg t) (ha : ix a < t.length) (hl : t.length ≤ 27) : callIn b m_value_at [.val (.str (tx t)), .val (tupN a)] S = .ok (.val (nD (gd t (ix a)))) S := by
  have e := call_val (f := m_value_at) (xs := [.val (.str (tx t)), .val (tupN a)]) (ds := [.str (tx t), tupN a]) (d := nD (gd t (ix a))) (S := S) rfl (by rw [c_value_at t a [] ht ha hl]; rfl)
  cases b with
  | false => exact e
  | true => simp [callIn, c_value_at t a [] ht ha hl, back, putAll]
theorem ix_ok (h : Tb t n) {a : List Nat} (ha : Dg a) (hl : a.length = n) : ix a < t.length := by
  rw [h.len, ← hl]
  exact ix_lt a ha
theorem c_value (h : Tb t n) {a : List Nat} (ha : Dg a) (hl : a.length = n) : gives (m_value [.val (.str (tx t)), .val (tupN a)] []) = some (nD (gd t (ix a))) := by
  unfold m_value b_value runF
  have hn : n ≤ 1000 := by have := h.n3; omega
  simp [k_check h, k_places_of false h, k_are hn ha hl, k_value_at true t a _ h.dg (ix_ok h ha hl) h.le, gives]
theorem allA_ok : ∀ n : Nat, ∀ a ∈ allA n, Dg a ∧ a.length = n
  | 0, a, h => by
    simp only [allA, List.mem_singleton] at h
    subst h
    exact ⟨fun _ h => absurd h List.not_mem_nil, rfl⟩
  | n + 1, a, h => by
    simp only [allA, List.mem_flatMap] at h
    obtain ⟨b, hb, h⟩ := h
    obtain ⟨h1, h2⟩ := allA_ok n b hb
    simp only [List.mem_cons, List.not_mem_nil, or_false] at h
    rcases h with rfl | rfl | rfl
    all_goals
      refine ⟨fun x hx => ?_, by simp [h2]⟩
      rcases List.mem_append.mp hx with hx | hx
      · exact h1 x hx
      · rw [List.mem_singleton.mp hx]; decide
/-! ### what counts -/
noncomputable def chg (a : List Nat) (k i : Nat) : List Nat := a.take k ++ [i] ++ a.drop (k + 1)
theorem chg_ok {a : List Nat} {k i : Nat} (ha : Dg a) (hk : k < a.length) (hi : i < 3) : Dg (chg a k i) ∧ (chg a k i).length = a.length := by
  unfold chg
  refine ⟨fun x hx => ?_, by simp; omega⟩
  rcases List.mem_append.mp hx with hx | hx
  · rcases List.mem_append.mp hx with hx | hx
    · exact ha x (List.mem_of_mem_take hx)
    · rw [List.mem_singleton.mp hx]; exact hi
  · exact ha x (List.mem_of_mem_drop hx)
noncomputable def vl (t a : List Nat) (k i : Nat) : Nat := gd t (ix (chg a k i))
noncomputable def df (t a : List Nat) (k : Nat) : Bool := !(vl t a k 0 == vl t a k 1 && vl t a k 0 == vl t a k 2)
theorem cutD_lo {a : List Nat} {k : Nat} (h : k ≤ a.length) : cutD (a.map nD) none (some (k : Int)) = (a.take k).map nD := by
  unfold cutD
  rw [HT.sIx_none, HT.sIx_nat, List.length_map, List.drop_zero, Nat.sub_zero, Nat.min_eq_left h, List.map_take]
theorem cutD_hi {a : List Nat} {k : Nat} (h : k + 1 ≤ a.length) : cutD (a.map nD) (some ((k : Int) + 1)) none = (a.drop (k + 1)).map nD := by
  unfold cutD
  rw [HT.sIx_none, show ((k : Int) + 1) = ((k + 1 : Nat) : Int) by omega, HT.sIx_nat, List.length_map, Nat.min_eq_left h, ← List.map_drop, List.take_of_length_le (by simp)]
theorem tup_chg {a : List Nat} {k i : Nat} : D.tup (((a.take k).map nD ++ [nD i]) ++ (a.drop (k + 1)).map nD) = tupN (chg a k i) := by
  unfold tupN chg
  simp
end T3
namespace T3
open PySem PySem.Spec PyProof.Rows L2
variable {t : List Nat} {n : Nat}
/-- a loop that may leave at once -/
theorem forL_any {body : D → CS} {α : Type} {l : List α} {h : α → D} {ρ : Slots} {S : Store} {q : SRes} {x : A} (hq : forL body (l.map h) ρ S = q) (P : Slots → Store → Prop) (p : α → Bool) (h0 : P ρ S)
    (hs : ∀ a ∈ l, ∀ ρ S, P ρ S → (p a = true → ∃ S', body (h a) ρ S = .rt x S') ∧ (p a = false → ∃ ρ' S', body (h a) ρ S = .nx ρ' S' ∧ P ρ' S')) :
    (l.any p = true ∧ ∃ S', q = .rt x S') ∨ (l.any p = false ∧ ∃ ρ' S', q = .nx ρ' S' ∧ P ρ' S') := by
  induction l generalizing ρ S with
  | nil => exact .inr ⟨rfl, ρ, S, hq.symm, h0⟩
  | cons a r ih =>
    rw [List.map_cons] at hq
    simp only [forL] at hq
    obtain ⟨h1, h2⟩ := hs a List.mem_cons_self ρ S h0
    cases hp : p a with
    | true =>
      obtain ⟨S', e⟩ := h1 hp
      rw [e] at hq
      exact .inl ⟨by simp [hp], S', hq.symm⟩
    | false =>
      obtain ⟨ρ', S', e, p'⟩ := h2 hp
      rw [e] at hq
      rcases ih hq p' fun b hb => hs b (List.mem_cons_of_mem _ hb) with h | h
      · exact .inl ⟨by simp [hp, h.1], h.2⟩
      · exact .inr ⟨by simp [hp, h.1], h.2⟩
theorem len_any (a b c : Nat) (ha : a < 3) (hb : b < 3) (hc : c < 3) : decide (1 < ((dedupI [(a : Int), b, c]).length : Int)) = !(a == b && a == c) := by
  have : a = 0 ∨ a = 1 ∨ a = 2 := by omega
  have : b = 0 ∨ b = 1 ∨ b = 2 := by omega
  have : c = 0 ∨ c = 1 ∨ c = 2 := by omega
  rcases ‹a = 0 ∨ _› with rfl | rfl | rfl <;> rcases ‹b = 0 ∨ _› with rfl | rfl | rfl <;> rcases ‹c = 0 ∨ _› with rfl | rfl | rfl <;> rfl
theorem k_args (h : n ≤ 3) (S : Store) : callIn false m_all_arguments [.val (nD n)] S = .ok (.val (lstA n)) S := call_val (ds := [nD n]) rfl (c_args n h)
theorem k_tuples (h : n ≤ 3) (S : Store) : callIn false m__law_tuples [.val (nD n)] S = .ok (.val (lstA n)) S := call_val (ds := [nD n]) rfl (c_tuples n h)
@[simp] theorem valsOf_app (r : List A) : ∀ ds : List D, valsOf (ds.map A.val ++ r) = (valsOf r).map (ds ++ ·)
  | [] => by cases h : valsOf r <;> simp [h]
  | d :: ds => by
    rw [List.map_cons, List.cons_append]
    simp only [valsOf, valsOf_app r ds]
    cases valsOf r <;> simp
@[simp] theorem valsOf_map (ds : List D) : valsOf (ds.map A.val) = some ds := by
  have := valsOf_app [] ds
  simpa using this
theorem map_val (a : List Nat) : a.map (A.val ∘ nD) = (a.map nD).map A.val := by rw [List.map_map]
theorem gi {a b : Int} {S : Store} : fGt (.val (.int a)) (.val (.int b)) S = .ok (.val (.bl (decide (b < a)))) S := rfl
theorem c_counts_at (h : Tb t n) {k : Nat} (hk : k < n) : gives (m_counts_at [.val (.str (tx t)), .val (nD k)] []) = some (.bl ((allA n).any fun a => df t a k)) := by
  unfold m_counts_at b_counts_at runF
  simp [k_places_of false h, k_args h.n3, lstA]
  generalize hq : forL _ _ _ _ = q
  have key := forL_any (x := .val (.bl true)) hq (fun ρ S => (∃ z2 z3, ρ = [some (.val (.str (tx t))), some (.val (nD k)), z2, z3, none, none]) ∧ S = []) (fun a => df t a k) ⟨⟨_, _, rfl⟩, rfl⟩ (by
    rintro a ha ρ S ⟨⟨z2, z3, rfl⟩, rfl⟩
    obtain ⟨h1, h2⟩ := allA_ok n a ha
    have hka : k < a.length := by omega
    have hla : a.length ≤ 3 := by have := h.n3; omega
    have hv : ∀ i, i < 3 → ∀ S, callIn false m_value_at [.val (.str (tx t)), .val (tupN (chg a k i))] S = .ok (.val (nD (vl t a k i))) S := fun i hi S => by
      obtain ⟨q1, q2⟩ := chg_ok (i := i) h1 hka hi
      exact k_value_at false t _ S h.dg (ix_ok h q1 (q2.trans h2)) h.le
    have hg : ∀ i, vl t a k i < 3 := fun i => dg_get h.dg _
    have e1 : cutD (a.map nD) none (some (k : Int)) = (a.take k).map nD := cutD_lo (by omega)
    have e2 : cutD (a.map nD) (some ((k : Int) + 1)) none = (a.drop (k + 1)).map nD := cutD_hi (by omega)
    have e3 : ∀ i : Nat, D.tup ((a.take k).map nD ++ D.int (i : Nat) :: (a.drop (k + 1)).map nD) = tupN (chg a k i) := fun i => by
      rw [← tup_chg]
      simp [nD]
    have hs : min k a.length + (a.length - (k + 1) + 1) ≤ 16000000 := by omega
    have e30 : D.tup ((a.take k).map nD ++ D.int 0 :: (a.drop (k + 1)).map nD) = tupN (chg a k 0) := e3 0
    have e31 : D.tup ((a.take k).map nD ++ D.int 1 :: (a.drop (k + 1)).map nD) = tupN (chg a k 1) := e3 1
    have e32 : D.tup ((a.take k).map nD ++ D.int 2 :: (a.drop (k + 1)).map nD) = tupN (chg a k 2) := e3 2
    have e4 : D.tup (a.map nD) = tupN a := rfl
    have e5 := len_any _ _ _ (hg 0) (hg 1) (hg 2)
    simp [nD, ← e4, rg3, lcGo, e1, e2, hs, e30, e31, e32, -List.map_map, -List.map_take, -List.map_drop]
    simp [lcGo, hv, nD, gi, e5, -List.map_map, -List.map_take, -List.map_drop]
    have e6 : (!vl t a k 0 == vl t a k 1 || !vl t a k 0 == vl t a k 2) = df t a k := by simp [df, Bool.not_and]
    rw [e6]
    cases df t a k <;> simp)
  rcases key with ⟨e, S', rfl⟩ | ⟨e, ρ', S', rfl, _⟩ <;> simp [e, gives]
theorem k_counts_at (h : Tb t n) {k : Nat} (hk : k < n) (S : Store) : callIn false m_counts_at [.val (.str (tx t)), .val (nD k)] S = .ok (.val (.bl ((allA n).any fun a => df t a k))) S := call_val (ds := [.str (tx t), nD k]) rfl (c_counts_at h hk)
/-- the places that count -/
noncomputable def cnt (t : List Nat) (n : Nat) : List Nat := (List.range n).filter fun k => (allA n).any fun a => df t a k
theorem c_counting_of (h : Tb t n) (S : Store) : m_counting_of [.val (.str (tx t))] S = .ok (.val (tupN (cnt t n))) S := by
  unfold m_counting_of b_counting_of runF
  have hn : n ≤ 3 := h.n3
  have key : ∀ S, lcGo (elm (tgName 1) (cTru (cCall 2 false m_counts_at (cCons (cV 0) (cCons (cV 1) cNil)))) (cV 1) [some (.val (.str (tx t))), none]) (rangeD 0 n) S = some ((cnt t n).map nD, S) := fun S => by
    rw [range_nD]
    exact lcGo_if (p := fun k => (allA n).any fun a => df t a k) fun k hk => by
      have hk : k < n := List.mem_range.mp hk
      cases hb : (allA n).any fun a => df t a k <;> simp [k_counts_at h hk, hb]
  have hl : (cnt t n).length ≤ 16000000 := by
    have := List.length_filter_le (fun k => (allA n).any fun a => df t a k) (List.range n)
    rw [List.length_range] at this
    unfold cnt
    omega
  have h1 : (-1000000 : Int) ≤ (n : Int) := by omega
  have h2 : (n : Int) ≤ 1000000 := by omega
  simp [k_places_of false h, nD, h1, h2, key, hl, tupN]
theorem k_counting_of (b : Bool) (h : Tb t n) (S : Store) : callIn b m_counting_of [.val (.str (tx t))] S = .ok (.val (tupN (cnt t n))) S := by
  have e := call_val (f := m_counting_of) (xs := [.val (.str (tx t))]) (ds := [.str (tx t)]) (d := tupN (cnt t n)) (S := S) rfl (by rw [c_counting_of h]; rfl)
  cases b with
  | false => exact e
  | true => simp [callIn, c_counting_of h, back, putAll]
theorem c_counting (h : Tb t n) : gives (m_counting [.val (.str (tx t))] []) = some (tupN (cnt t n)) := by
  unfold m_counting b_counting runF
  simp [k_check h, k_counting_of true h, gives]
/-! ### the law's own counting -/
theorem k_at (t a : List Nat) (S : Store) (ht : Dg t) (ha : ix a < t.length) (hl : t.length ≤ 27) : callIn false m__law_at [.val (.str (tx t)), .val (tupN a)] S = .ok (.val (nD (gd t (ix a)))) S :=
  call_val (ds := [.str (tx t), tupN a]) rfl (by rw [c_at t a [] ht ha hl]; rfl)
theorem inD_nD (k : Nat) : ∀ l : List Nat, inD (nD k) (l.map nD) = decide (k ∈ l)
  | [] => rfl
  | x :: r => by
    have ih := inD_nD k r
    unfold inD at ih ⊢
    rw [List.map_cons, List.any_cons, ih]
    have e : dEq (nD x) (nD k) = decide (k = x) := by
      show ((x : Int) == (k : Int)) = _
      by_cases h : k = x
      · simp [h]
      · have : ¬ (x : Int) = (k : Int) := fun z => h (Int.ofNat_inj.mp z).symm
        rw [decide_eq_false h]
        exact beq_eq_false_iff_ne.mpr this
    rw [e]
    simp
theorem flat_nD (l : List Nat) : (l.map nD).all flatD = true := by
  rw [List.all_eq_true]
  intro d hd
  obtain ⟨x, _, rfl⟩ := List.mem_map.mp hd
  rfl
theorem notin_ref {S : Store} {i k : Nat} {l : List Nat} (h : S[i]? = some (.lst (l.map nD))) : fNotIn (.val (.int (k : Nat))) (.ref i) S = .ok (.val (.bl (!decide (k ∈ l)))) S := by
  have e : fInB (.val (.int (k : Nat))) (.ref i) S = some (decide (k ∈ l)) := by
    unfold fInB
    have h1 : asL S (.ref i) = some (l.map nD) := by simp [h]
    show (match asL S (.ref i) with
      | some ds => if flatD (D.int (k : Nat)) && ds.all flatD then some (inD (D.int (k : Nat)) ds) else _
      | none => none) = _
    rw [h1]
    show (if (true && (l.map nD).all flatD) = true then some (inD (nD k) (l.map nD)) else _) = _
    rw [flat_nD, inD_nD]
    rfl
  unfold fNotIn
  rw [e]
theorem ne_tri (a b c : Nat) (S : Store) : fNe (.val (.lst [.int (a : Nat), .int (b : Nat), .int (c : Nat)])) (.val (.lst [.int (a : Nat), .int (a : Nat), .int (a : Nat)])) S = .ok (.val (.bl (!(a == b && a == c)))) S := by
  have e : dEq (.lst [.int (a : Nat), .int (b : Nat), .int (c : Nat)]) (.lst [.int (a : Nat), .int (a : Nat), .int (a : Nat)]) = (a == b && a == c) := by
    show (((a : Int) == (a : Int)) && (((b : Int) == (a : Int)) && (((c : Int) == (a : Int)) && true))) = _
    rw [Bool.eq_iff_iff]
    simp
    omega
  rw [← e]
  rfl
/-- the first k places' -/
noncomputable def cnN (t : List Nat) (n k : Nat) : List Nat := (List.range k).filter fun k => (allA n).any fun a => df t a k
theorem not_cnt (t : List Nat) (n k : Nat) : k ∉ cnN t n k := fun z => by
  have := (List.mem_filter.mp z).1
  rw [List.mem_range] at this
  exact absurd this (Nat.lt_irrefl _)
theorem cnt_succ (t : List Nat) (n k : Nat) : cnN t n (k + 1) = cnN t n k ++ if (allA n).any (fun a => df t a k) then [k] else [] := by
  unfold cnN
  rw [List.range_succ, List.filter_append]
  cases h : (allA n).any (fun a => df t a k) <;> simp [h]
theorem c_law_counting (h : Tb t n) : gives (m__law_counting [.val (.str (tx t))] []) = some (.lst ((cnt t n).map nD)) := by
  unfold m__law_counting b__law_counting runF
  have hn : n ≤ 3 := h.n3
  have h1 : (-1000000 : Int) ≤ (n : Int) := by omega
  have h2 : (n : Int) ≤ 1000000 := by omega
  simp [k_places h, nD, h1, h2, range_nD]
  generalize hq : forL _ _ _ _ = q
  obtain ⟨ρ', S', rfl, z1, z4, z5, rfl, rfl⟩ := forL_q hq (fun i ρ S => ∃ z1 z4 z5, ρ = [some (.val (.str (tx t))), z1, some (.val (.int (n : Nat))), some (.ref 0), z4, z5, none] ∧ S = [.lst ((cnN t n i).map nD)]) ⟨_, _, _, rfl, rfl⟩ (by
    rintro k d ρ S hd ⟨z1, z4, z5, rfl, rfl⟩
    obtain ⟨x, hx, rfl⟩ := map_get hd
    obtain ⟨hk, hx2⟩ := List.getElem?_eq_some_iff.mp hx
    rw [List.getElem_range] at hx2
    subst hx2
    rw [List.length_range] at hk
    have e0 : callIn false m__law_tuples [.val (.int (n : Nat))] = fun S => .ok (.val (lstA n)) S := funext fun S => k_tuples hn S
    simp [e0, lstA]
    generalize hq : forL _ _ _ _ = q
    obtain ⟨ρ', S', rfl, z4, z5, rfl, rfl⟩ := forL_q hq (fun j ρ S => ∃ z4 z5, ρ = [some (.val (.str (tx t))), some (.val (.int (k : Nat))), some (.val (.int (n : Nat))), some (.ref 0), z4, z5, none] ∧
      S = [.lst ((cnN t n k ++ if ((allA n).take j).any (fun a => df t a k) then [k] else []).map nD)]) ⟨_, _, rfl, by simp⟩ (by
      rintro j d ρ S hd ⟨z4, z5, rfl, rfl⟩
      rw [List.getElem?_map, Option.map_eq_some_iff] at hd
      obtain ⟨a, ha, rfl⟩ := hd
      obtain ⟨g1, g2⟩ := allA_ok n a (List.mem_of_getElem? ha)
      have hka : k < a.length := by omega
      have hv : ∀ i, i < 3 → ∀ S, callIn false m__law_at [.val (.str (tx t)), .val (tupN (chg a k i))] S = .ok (.val (nD (vl t a k i))) S := fun i hi S => by
        obtain ⟨q1, q2⟩ := chg_ok (i := i) g1 hka hi
        exact k_at t _ S h.dg (ix_ok h q1 (q2.trans g2)) h.le
      have e1 : cutD (a.map nD) none (some (k : Int)) = (a.take k).map nD := cutD_lo (by omega)
      have e2 : cutD (a.map nD) (some ((k : Int) + 1)) none = (a.drop (k + 1)).map nD := cutD_hi (by omega)
      have e3 : ∀ i : Nat, D.tup ((a.take k).map nD ++ D.int (i : Nat) :: (a.drop (k + 1)).map nD) = tupN (chg a k i) := fun i => by
        rw [← tup_chg]
        simp [nD]
      have hs : min k a.length + 1 ≤ 16000000 := by omega
      have hs2 : min k a.length + 1 + (a.length - (k + 1)) ≤ 16000000 := by omega
      have hs3 : min k a.length + (a.length - (k + 1) + 1) ≤ 16000000 := by omega
      have e30 : D.tup ((a.take k).map nD ++ D.int 0 :: (a.drop (k + 1)).map nD) = tupN (chg a k 0) := e3 0
      have e31 : D.tup ((a.take k).map nD ++ D.int 1 :: (a.drop (k + 1)).map nD) = tupN (chg a k 1) := e3 1
      have e32 : D.tup ((a.take k).map nD ++ D.int 2 :: (a.drop (k + 1)).map nD) = tupN (chg a k 2) := e3 2
      have e4 : D.tup (a.map nD) = tupN a := rfl
      have hT : ((allA n).take (j + 1)).any (fun a => df t a k) = (((allA n).take j).any (fun a => df t a k) || df t a k) := by
        rw [List.take_add_one, ha, List.any_append]
        simp
      have e6 : (!vl t a k 0 == vl t a k 1 || !vl t a k 0 == vl t a k 2) = df t a k := by simp [df, Bool.not_and]
      have e7 : k ∉ cnN t n k := not_cnt t n k
      have e8 : (cnN t n k).length ≤ 1000 := by
        have := List.length_filter_le (fun k => (allA n).any fun a => df t a k) (List.range k)
        rw [List.length_range] at this
        unfold cnN
        omega
      rw [hT]
      generalize hany : ((allA n).take j).any (fun a => df t a k) = any
      generalize hL : (cnN t n k ++ if any = true then [k] else []) = L
      have hmem : decide (k ∈ L) = any := by
        subst hL
        cases any <;> simp [e7]
      have hlen : L.length ≤ 16000000 := by
        subst hL
        cases any <;> simp <;> omega
      have e9 : ∀ S : Store, S[0]? = some (.lst (L.map nD)) → fNotIn (.val (.int (k : Nat))) (.ref 0) S = .ok (.val (.bl (!any))) S := fun S hS => by
        rw [notin_ref hS, hmem]
      simp [nD, ← e4, rg3, lcGo, e1, e2, hs, hs2, hs3, e30, e31, e32, hv, ne_tri, List.replicate_succ, -List.map_map, -List.map_take, -List.map_drop]
      rw [e6]
      subst hL
      cases df t a k <;> cases any <;> simp [e9, nD] <;> simp [Nat.le_trans e8 (show 1000 ≤ 16000000 by decide)])
    rw [cnt_succ, List.length_map, List.take_length]
    exact ⟨_, rfl, _, _, _, rfl⟩)
  simp [gives, frzO, cnN, cnt]
end T3
namespace T3
open PySem PySem.Spec PyProof.Rows L2
variable {t : List Nat} {n : Nat}
theorem eq_str {a b : Str} {S : Store} : fEq (.val (.str a)) (.val (.str b)) S = .ok (.val (.bl (a == b))) S := rfl
theorem ne_str {a b : Str} {S : Store} : fNe (.val (.str a)) (.val (.str b)) S = .ok (.val (.bl (!(a == b)))) S := rfl
theorem sg_eq {a b : Nat} : (sg a == sg b) = (a == b) := by
  rw [Bool.eq_iff_iff, beq_iff_eq, beq_iff_eq]
  simp [sg]
/-! ### how often each digit -/
noncomputable def dg3 (t : List Nat) : List Nat := [t.count 0, t.count 1, t.count 2]
theorem filt_len (d : Nat) (t : List Nat) : (t.filter fun x => x == d).length = t.count d := by
  rw [List.count_eq_countP, List.countP_eq_length_filter]
theorem sgD : signsD "012" = [.str (sg 0), .str (sg 1), .str (sg 2)] := by rfl
theorem lc_same (h : Tb t n) (d : Nat) (S : Store) : lcGo (elm (tgName 2) (cBin fEq (cV 2) (cV 1)) (cV 2) [some (.val (.str (tx t))), some (.val (.str (sg d))), none]) (t.map fun x => D.str (sg x)) S = some ((t.filter fun x => x == d).map fun x => D.str (sg x), S) :=
  lcGo_if (p := fun x => x == d) fun x hx => by
    cases hb : x == d <;> simp [eq_str, sg_eq, hb]
theorem c_digits (h : Tb t n) : gives (m_digits_of [.val (.str (tx t))] []) = some (tupN (dg3 t)) := by
  unfold m_digits_of b_digits_of runF
  have hc : ∀ d, t.count d ≤ 16000000 := fun d => by
    have := List.count_le_length (a := d) (l := t)
    have := h.le
    omega
  simp [k_check h, g_DIGITS, sgD, lcGo, signs_tx, lc_same h, filt_len, hc, gives, tupN, dg3, nD]
theorem beq_nat (a b : Nat) : ((a : Int) == (b : Int)) = (a == b) := by
  rw [Bool.eq_iff_iff, beq_iff_eq, beq_iff_eq]
  exact Int.ofNat_inj
/-! ### fixed -/
noncomputable def fx (t : List Nat) (n : Nat) : List Nat := (List.range 3).filter fun i => gd t (ix (List.replicate n i)) == i
theorem rep_tup (h : Tb t n) (i : Nat) (S : Store) : fMul true (.val (.tup [.int (i : Nat)])) (.val (.int (n : Nat))) S = .ok (.val (tupN (List.replicate n i))) S := by
  rcases h.cases with e | e | e <;> subst e <;> simp [tupN, List.replicate_succ, nD]
theorem dg_rep {i : Nat} (hi : i < 3) : Dg (List.replicate n i) := fun x hx => by
  rw [List.eq_of_mem_replicate hx]
  exact hi
theorem c_fixed (h : Tb t n) : gives (m_fixed [.val (.str (tx t))] []) = some (tupN (fx t n)) := by
  unfold m_fixed b_fixed runF
  have key : ∀ S, lcGo (elm (tgName 2) (cBin fEq (cCall 2 false m_value_at (cCons (cV 0) (cCons (cBin (fMul true) (cTup (cCons (cV 2) cNil)) (cV 1)) cNil))) (cV 2)) (cV 2) [some (.val (.str (tx t))), some (.val (.int (n : Nat))), none]) ((List.range 3).map nD) S = some ((fx t n).map nD, S) := fun S =>
    lcGo_if (p := fun i => gd t (ix (List.replicate n i)) == i) fun i hi => by
      have hi : i < 3 := List.mem_range.mp hi
      have e := k_value_at false t (List.replicate n i) S h.dg (ix_ok h (dg_rep hi) (by simp)) h.le
      cases hb : gd t (ix (List.replicate n i)) == i <;> simp [nD, rep_tup h, e, eq_int, beq_nat, hb]
  have hl : (fx t n).length ≤ 16000000 := by
    have := List.length_filter_le (fun i => gd t (ix (List.replicate n i)) == i) (List.range 3)
    rw [List.length_range] at this
    unfold fx
    omega
  simp [k_check h, k_places_of false h, nD, range_nD, key, hl, gives, tupN]
/-! ### onto -/
noncomputable def full (t : List Nat) : Bool := decide (0 ∈ t) && (decide (1 ∈ t) && decide (2 ∈ t))
theorem in_tx (d : Nat) (S : Store) : fIn (.val (.str (sg d))) (.val (.str (tx t))) S = .ok (.val (.bl (decide (d ∈ t)))) S := by
  have e : decide ((sg d).cps.toList.getD 0 0 ∈ (tx t).cps.toList) = decide (d ∈ t) := by
    rw [tx_list]
    simp [sg]
  unfold fIn fInB
  rw [← e]
  rfl
theorem c_full (h : Tb t n) (S : Store) : m_is_full [.val (.str (tx t))] S = .ok (.val (.bl (full t))) S := by
  unfold m_is_full b_is_full runF
  simp [g_DIGITS, sgD, lcGo, in_tx, full]
theorem k_full (b : Bool) (h : Tb t n) (S : Store) : callIn b m_is_full [.val (.str (tx t))] S = .ok (.val (.bl (full t))) S := by
  have e := call_val (f := m_is_full) (xs := [.val (.str (tx t))]) (ds := [.str (tx t)]) (d := .bl (full t)) (S := S) rfl (by rw [c_full h]; rfl)
  cases b with
  | false => exact e
  | true => simp [callIn, c_full h, back, putAll]
theorem c_onto (h : Tb t n) : gives (m_is_onto [.val (.str (tx t))] []) = some (.bl (full t)) := by
  unfold m_is_onto b_is_onto runF
  simp [k_check h, k_full true h, gives]
end T3
namespace T3
open PySem PySem.Spec PyProof.Rows L2
variable {t : List Nat} {n : Nat}
/-! ### repr of two alike -/
noncomputable def sml (d : D) : Bool := dOk d && shw d && decide (dDep d ≤ 5) && decide (rsz d ≤ 1000000)
theorem rpOk_two {d : D} (h : sml d = true) : rpOk (.lst [d, d]) = true := by
  simp only [sml, Bool.and_eq_true, decide_eq_true_eq] at h
  obtain ⟨⟨⟨h1, h2⟩, h3⟩, h4⟩ := h
  simp only [rpOk, shp, Bool.and_eq_true, decide_eq_true_eq]
  refine ⟨⟨⟨?_, ?_⟩, ?_⟩, ?_⟩
  · show (dOk d && (dOk d && true)) = true
    rw [h1]
    rfl
  · show max (dDep d) (max (dDep d) 0) + 1 ≤ 60
    omega
  · show (shw d && (shw d && true)) = true
    rw [h2]
    rfl
  · refine decide_eq_true ?_
    show rsz d + 2 + (rsz d + 2 + 0) + 4 ≤ 16000000
    omega
theorem repr_two {d : D} (h : sml d = true) (S : Store) : fRepr [.val (.lst [d, d])] S = .ok (.val (.str (rp (.lst [d, d])))) S := by
  show (if rpOk (.lst [d, d]) then Res.ok (.val (.str (rp (.lst [d, d])))) S else .bad) = _
  rw [rpOk_two h]
  rfl
theorem shw_nD {v : Nat} (h : v < 1000) : shw (nD v) = true := by
  refine decide_eq_true ?_
  have h1 : ((v : Int)).natAbs = v := rfl
  rw [h1]
  have : v.log2 ≤ v := Nat.log2_le_self v
  omega
theorem sml_nD {v : Nat} (h : v < 1000) : sml (nD v) = true := by
  simp only [sml, Bool.and_eq_true]
  exact ⟨⟨⟨rfl, shw_nD h⟩, rfl⟩, rfl⟩
theorem sml_bl (b : Bool) : sml (.bl b) = true := rfl
theorem okL_nD : ∀ l : List Nat, dOkL (l.map nD) = true
  | [] => rfl
  | x :: r => by show (true && dOkL (r.map nD)) = true; rw [okL_nD r]; rfl
theorem shwL_nD : ∀ l : List Nat, (∀ x ∈ l, x < 1000) → shwL (l.map nD) = true
  | [], _ => rfl
  | x :: r, h => by
    show (shw (nD x) && shwL (r.map nD)) = true
    rw [shw_nD (h x List.mem_cons_self), shwL_nD r fun y hy => h y (List.mem_cons_of_mem _ hy)]
    rfl
theorem depL_nD : ∀ l : List Nat, dDepL (l.map nD) = 0
  | [] => rfl
  | x :: r => by show max 0 (dDepL (r.map nD)) = 0; rw [depL_nD r]; rfl
theorem rszL_nD : ∀ l : List Nat, rszL (l.map nD) = 2002 * l.length
  | [] => rfl
  | x :: r => by
    show 2000 + 2 + rszL (r.map nD) = _
    rw [rszL_nD r, List.length_cons]
    omega
theorem sml_tupN {l : List Nat} (h : ∀ x ∈ l, x < 1000) (hl : l.length ≤ 100) : sml (tupN l) = true := by
  simp only [sml, Bool.and_eq_true, decide_eq_true_eq]
  refine ⟨⟨⟨okL_nD l, shwL_nD l h⟩, ?_⟩, ?_⟩
  · show dDepL (l.map nD) + 1 ≤ 5
    rw [depL_nD]
    decide
  · show rszL (l.map nD) + 4 ≤ 1000000
    rw [rszL_nD]
    omega
/-! ### texts put together -/
theorem joinL_nil : ∀ l : List Nat, TL.joinL [] (l.map fun x => [48 + x]) = l.map (48 + ·)
  | [] => rfl
  | [x] => rfl
  | x :: y :: r => by
    show [48 + x] ++ ([] ++ TL.joinL [] ((y :: r).map fun x => [48 + x])) = _
    rw [joinL_nil (y :: r)]
    rfl
theorem join_sg (l : List Nat) : Txt.join "" (l.map sg) = tx l := by
  rw [TL.join_eq]
  have h := TL.tl_join "" (l.map sg)
  have e1 : (l.map sg).map TL.tl = l.map fun x => [48 + x] := by
    rw [List.map_map]
    rfl
  have e2 : TL.tl (Str.ofString "") = [] := rfl
  rw [e1, e2, joinL_nil] at h
  have h2 : (Str.join "" (l.map sg)).cps.toList = l.map (48 + ·) := h
  unfold tx
  cases hj : Str.join "" (l.map sg) with
  | mk c =>
    rw [hj] at h2
    congr 1
    rw [← h2]
/-! ### the draws -/
theorem call_keep1 {f : Fn} {d e1 : D} {S S1 : Store} {i : Nat} {o o' : O} (hi : S[i]? = some o) (ho : flatO o = true) (h : f [.ref 0, .val e1] [o] = .ok (.val d) (o' :: S1)) (ho' : flatO o' = true) (b : Bool) : callIn b f [.ref i, .val e1] S = .ok (.val d) (S.set i o') := by
  unfold callIn
  simp [hi, ho, h, back, ho', putAll]
theorem k_draw (S : Store) (i : Nat) (p q r n : Int) (hi : S[i]? = some (spr p q r)) (h0 : 0 < n) (h1 : n < 1073741824) : ∃ d p' q' r' : Int, 0 ≤ d ∧ d < n ∧ ∀ b, callIn b m__law_draw [.ref i, .val (.int n)] S = .ok (.val (.int d)) (S.set i (spr p' q' r')) := by
  obtain ⟨d, p', q', r', a, b, e⟩ := c_draw p q r n h0 h1
  exact ⟨d, p', q', r', a, b, call_keep1 hi rfl e rfl⟩
theorem c_of (p q r : Int) (ds : List D) (h0 : 0 < ds.length) (h1 : ds.length ≤ 1000) : ∃ d ∈ ds, ∃ p' q' r', m__law_of [.ref 0, .val (.lst ds)] [spr p q r] = .ok (.val d) [spr p' q' r'] := by
  obtain ⟨k, p', q', r', a, b, e⟩ := k_draw [spr p q r] 0 p q r ds.length rfl (by omega) (by omega)
  have hk : k.toNat < ds.length := by omega
  refine ⟨ds[k.toNat], List.getElem_mem _, p', q', r', ?_⟩
  have e2 : ixN ds.length k = some k.toNat := ixN_int a b
  unfold m__law_of b__law_of runF
  simp [e, e2, List.getElem?_eq_getElem hk]
theorem k_of (S : Store) (i : Nat) (p q r : Int) (ds : List D) (hi : S[i]? = some (spr p q r)) (h0 : 0 < ds.length) (h1 : ds.length ≤ 1000) : ∃ d ∈ ds, ∃ p' q' r', ∀ b, callIn b m__law_of [.ref i, .val (.lst ds)] S = .ok (.val d) (S.set i (spr p' q' r')) := by
  obtain ⟨d, hd, p', q', r', e⟩ := c_of p q r ds h0 h1
  exact ⟨d, hd, p', q', r', call_keep1 hi rfl e rfl⟩
/-! ### a drawn table -/
noncomputable def unt (s : Str) : List Nat := s.cps.toList.map (· - 48)
noncomputable def tbB (n : Nat) (s : Str) : Bool := (unt s).all (fun x => decide (x < 3)) && decide ((unt s).length = 3 ^ n) && decide (tx (unt s) = s) && decide (1 ≤ n) && decide (n ≤ 3)
theorem tbB_ok {n : Nat} {s : Str} (h : tbB n s = true) : ∃ t, Tb t n ∧ s = tx t := by
  simp only [tbB, Bool.and_eq_true, decide_eq_true_eq, List.all_eq_true] at h
  obtain ⟨⟨⟨⟨h1, h2⟩, h3⟩, h4⟩, h5⟩ := h
  exact ⟨unt s, ⟨fun x hx => h1 x hx, h2, h4, h5⟩, h3.symm⟩
theorem str_sgS {x : Nat} {S : Store} (h : x < 3) : fStr [.val (nD x)] S = .ok (.val (.str (sg x))) S := by
  match x, h with
  | 0, _ => rfl
  | 1, _ => rfl
  | 2, _ => rfl
theorem lc_draw (x1 x2 : Option A) (K : O) (m : Nat) (p q r : Int) : ∃ ds p' q' r', Dg ds ∧ ds.length = m ∧
    lcGo (elm (tgName 3) cYes (cB1 fStr (cCons (cCall 2 false m__law_draw (cCons (cV 0) (cCons (cI 3) cNil))) cNil)) [some (.ref 0), x1, x2, none]) (rangeD 0 m) [spr p q r, K] = some (ds.map fun x => D.str (sg x), [spr p' q' r', K]) := by
  obtain ⟨ys, S', e, ds, p', q', r', rfl, h1, h2, rfl⟩ := lcGo_inv (f := elm (tgName 3) cYes (cB1 fStr (cCons (cCall 2 false m__law_draw (cCons (cV 0) (cCons (cI 3) cNil))) cNil)) [some (.ref 0), x1, x2, none]) (ds := rangeD 0 m) (S := [spr p q r, K])
    (fun i acc S => ∃ (ds : List Nat) (p q r : Int), acc = ds.map (fun x => D.str (sg x)) ∧ Dg ds ∧ ds.length = i ∧ S = [spr p q r, K]) ⟨[], p, q, r, rfl, fun _ h => absurd h List.not_mem_nil, rfl, rfl⟩ (by
    rintro i d acc S hd ⟨ds, p, q, r, rfl, h1, h2, rfl⟩
    obtain ⟨k, p', q', r', a, b, e⟩ := k_draw [spr p q r, K] 0 p q r 3 rfl (by omega) (by omega)
    have ek : D.int k = nD k.toNat := by
      unfold nD
      rw [Int.toNat_of_nonneg a]
    have e3 : ∀ S, fStr [.val (.int k)] S = .ok (.val (.str (sg k.toNat))) S := fun S => by rw [ek]; exact str_sgS (by omega)
    refine ⟨.str (sg k.toNat), [spr p' q' r', K], ?_, ds ++ [k.toNat], p', q', r', by simp, fun x hx => ?_, by simp [h2], rfl⟩
    · simp [e, e3]
    · rcases List.mem_append.mp hx with hx | hx
      · exact h1 x hx
      · rw [List.mem_singleton.mp hx]
        omega)
  rw [range_nD, List.length_map, List.length_range] at h2
  exact ⟨ds, p', q', r', h1, h2, e⟩
theorem sum_one {α : Type} (f : α → Nat) : ∀ l : List α, (∀ x ∈ l, f x = 1) → (l.map f).sum = l.length
  | [], _ => rfl
  | x :: r, h => by
    rw [List.map_cons, List.sum_cons, h x List.mem_cons_self, sum_one f r fun y hy => h y (List.mem_cons_of_mem _ hy), List.length_cons]
    omega
theorem join_ok {l : List Nat} (h : l.length ≤ 1000) (S : Store) : fJoin (.val (.str "")) [.val (.lst (l.map fun x => D.str (sg x)))] S = .ok (.val (.str (tx l))) S := by
  have e : strsOf (l.map fun x => D.str (sg x)) = some (l.map sg) := strsOf_map sg l
  have hz : joinN (l.map sg) + (l.map sg).length * (Str.ofString "").length ≤ 16000000 := by
    have e2 : (Str.ofString "").length = 0 := rfl
    rw [e2]
    unfold joinN
    rw [List.map_map, sum_one ((fun x : Str => x.length) ∘ sg) l fun x _ => rfl]
    omega
  unfold fJoin
  simp only [asL, e]
  rw [if_pos (szOk_s hz), join_sg]
theorem c_table (p q r : Int) (n : Nat) (h1 : 1 ≤ n) (h3 : n ≤ 3) : ∃ t p' q' r' S', Tb t n ∧ m__law_table [.ref 0, .val (nD n)] [spr p q r] = .ok (.val (.str (tx t))) (spr p' q' r' :: S') := by
  have hn : n = 1 ∨ n = 2 ∨ n = 3 := by omega
  unfold m__law_table b__law_table runF
  rcases hn with rfl | rfl | rfl
  · simp [nD]
    generalize hK : O.lst _ = K
    obtain ⟨d, p', q', r', a, b, e⟩ := k_draw [spr p q r, K] 0 p q r 2 rfl (by omega) (by omega)
    rw [e]
    cases hd : d == 0 with
    | true =>
      subst hK
      simp [eq_int, hd]
      generalize hM : ([.str _, .str _, .str _, .str _, .str _, .str _, .str _, .str _, .str _, .str _] : List D) = M
      obtain ⟨m, hm, p2, q2, r2, e2⟩ := k_of [spr p' q' r', O.lst [D.lst M, D.lst [.str "012112222", .str "000011012", .str "012120201", .str "120220000", .str "000111222", .str "012012012", .str "000000012", .str "021102210"]]] 0 p' q' r' M rfl (by subst hM; decide) (by subst hM; decide)
      have hall : ∀ m ∈ M, ∃ s, m = .str s ∧ tbB 1 s = true := by
        subst hM
        simp only [List.forall_mem_cons, List.forall_mem_nil, and_true]
        exact ⟨⟨_, rfl, by decide +kernel⟩, ⟨_, rfl, by decide +kernel⟩, ⟨_, rfl, by decide +kernel⟩, ⟨_, rfl, by decide +kernel⟩, ⟨_, rfl, by decide +kernel⟩, ⟨_, rfl, by decide +kernel⟩, ⟨_, rfl, by decide +kernel⟩, ⟨_, rfl, by decide +kernel⟩, ⟨_, rfl, by decide +kernel⟩, ⟨_, rfl, by decide +kernel⟩, fun _ h => absurd h List.not_mem_nil⟩
      obtain ⟨s, rfl, hs⟩ := hall m hm
      obtain ⟨t, ht, rfl⟩ := tbB_ok hs
      simp [e2]
      exact ⟨t, ht, rfl⟩
    | false =>
      obtain ⟨ds, p2, q2, r2, g1, g2, e2⟩ := lc_draw (some (.val (.int 1))) (some (.ref 1)) K 3 p' q' r'
      simp [eq_int, hd, e2, g2, join_ok]
      exact ⟨ds, ⟨g1, g2, by decide, by decide⟩, rfl⟩
  · simp [nD]
    generalize hK : O.lst _ = K
    obtain ⟨d, p', q', r', a, b, e⟩ := k_draw [spr p q r, K] 0 p q r 2 rfl (by omega) (by omega)
    rw [e]
    cases hd : d == 0 with
    | true =>
      subst hK
      simp [eq_int, hd]
      generalize hM : ([.str _, .str _, .str _, .str _, .str _, .str _, .str _, .str _] : List D) = M
      obtain ⟨m, hm, p2, q2, r2, e2⟩ := k_of [spr p' q' r', O.lst [.lst [.str "012", .str "120", .str "201", .str "210", .str "102", .str "000", .str "111", .str "001", .str "122", .str "020"], D.lst M]] 0 p' q' r' M rfl (by subst hM; decide) (by subst hM; decide)
      have hall : ∀ m ∈ M, ∃ s, m = .str s ∧ tbB 2 s = true := by
        subst hM
        simp only [List.forall_mem_cons, List.forall_mem_nil, and_true]
        exact ⟨⟨_, rfl, by decide +kernel⟩, ⟨_, rfl, by decide +kernel⟩, ⟨_, rfl, by decide +kernel⟩, ⟨_, rfl, by decide +kernel⟩, ⟨_, rfl, by decide +kernel⟩, ⟨_, rfl, by decide +kernel⟩, ⟨_, rfl, by decide +kernel⟩, ⟨_, rfl, by decide +kernel⟩, fun _ h => absurd h List.not_mem_nil⟩
      obtain ⟨s, rfl, hs⟩ := hall m hm
      obtain ⟨t, ht, rfl⟩ := tbB_ok hs
      simp [e2]
      exact ⟨t, ht, rfl⟩
    | false =>
      obtain ⟨ds, p2, q2, r2, g1, g2, e2⟩ := lc_draw (some (.val (.int 2))) (some (.ref 1)) K 9 p' q' r'
      simp [eq_int, hd, e2, g2, join_ok]
      exact ⟨ds, ⟨g1, g2, by decide, by decide⟩, rfl⟩
  · simp [nD]
    generalize hK : O.lst _ = K
    obtain ⟨ds, p2, q2, r2, g1, g2, e2⟩ := lc_draw (some (.val (.int 3))) (some (.ref 1)) K 27 p q r
    simp [e2, g2, join_ok]
    exact ⟨ds, ⟨g1, g2, by decide, by decide⟩, rfl⟩
end T3
namespace T3
open PySem PySem.Spec PyProof.Rows L2
variable {t : List Nat} {n : Nat}
theorem lt_int {a b : Int} {S : Store} : fLt (.val (.int a)) (.val (.int b)) S = .ok (.val (.bl (decide (a < b)))) S := rfl
theorem ge_int {a b : Int} {S : Store} : fGe (.val (.int a)) (.val (.int b)) S = .ok (.val (.bl (decide (b ≤ a)))) S := rfl
/-! ### the spring -/
theorem c_spring (ns : List Int) (hl : ns.length ≤ 63) (k : Nat) (hk : k ≤ 1000) : ∃ p q : Int, m__law_spring [.val (.ro (ns.map D.int)), .val (nD k)] [] = .ok (.ref 0) [spr p q 0] := by
  unfold m__law_spring b__law_spring runF
  have hm : mulOk 7 (k : Int) = true := mulOk_l (by omega) (by omega)
  have hm2 : mulOk 7919 (k : Int) = true := mulOk_l (by omega) (by omega)
  have hm3 : mulOk 11 (k : Int) = true := mulOk_l (by omega) (by omega)
  have cell : ∀ ρ, ρ = [some (A.val (.ro (ns.map D.int))), some (.val (.int (k : Nat))), none, none, none] → ∃ c : Int, cIf (cBin fLt (cV 1) (cB1 fLen (cCons (cV 0) cNil))) (cBin fIx (cV 0) (cV 1)) (cBin (fAdd true) (cBin (fMul true) (cI 7) (cV 1)) (cI 2)) ρ [] = .ok (.val (.int c)) [] := by
    rintro ρ rfl
    by_cases h : k < ns.length
    · refine ⟨ns[k], ?_⟩
      have e : ixN (ns.map D.int).length (k : Int) = some k := ixN_nat (by simpa using h)
      rw [List.length_map] at e
      simp [lt_int, h, e, List.getElem?_eq_getElem h]
    · refine ⟨7 * k + 2, ?_⟩
      simp [lt_int, h, hm]
  obtain ⟨c, hc⟩ := cell _ rfl
  have hcut : ∃ cs : List Int, cs.length ≤ 63 ∧ cutD (ns.map D.int) none (some 8) = cs.map D.int := by
    refine ⟨(ns.drop (HT.sIx ns.length 0 none)).take (HT.sIx ns.length ns.length (some 8) - HT.sIx ns.length 0 none), ?_, ?_⟩
    · rw [List.length_take, List.length_drop]
      omega
    · unfold cutD
      rw [List.length_map, List.map_take, List.map_drop]
  obtain ⟨cs, hcl, hcs⟩ := hcut
  have hz : cs.length + 1 ≤ 16000000 := by omega
  have hc' := hc
  simp only [List.map_cons, List.map_nil, List.cons_append, List.nil_append, nD, List.length_cons, List.length_nil, List.replicate]
  rw [ap_sSeq, ap_sAsg, hc]
  simp [hm2, hcs, hz]
  have ecs : cs.map D.int ++ [D.int c] = (cs ++ [c]).map D.int := by simp
  rw [ecs]
  generalize hq : forL _ _ _ _ = q
  obtain ⟨ρ', S', rfl, m, z, rfl, rfl⟩ := forL_q hq (fun i ρ S => ∃ (m : Int) (z : Option A), ρ = [some (A.val (D.ro (ns.map D.int))), some (.val (.int (k : Nat))), some (.val (.int c)), some (.val (.int m)), z] ∧ S = []) ⟨_, _, rfl, rfl⟩ (by
    rintro i d ρ S hd ⟨m, z, rfl, rfl⟩
    rw [List.getElem?_map, Option.map_eq_some_iff] at hd
    obtain ⟨x, hx, rfl⟩ := hd
    simp [mulOk_r, hm3])
  by_cases h0 : c < 0
  · simp [lt_int, h0, spr]
  · by_cases h1 : 1000000000000000000 ≤ c
    · simp [lt_int, ge_int, h0, h1, spr]
    · simp [lt_int, ge_int, h0, h1, spr]
theorem k_spring (ns : List Int) (hl : ns.length ≤ 63) (k : Nat) (hk : k ≤ 1000) (S : Store) : ∃ p q : Int, callIn true m__law_spring [.val (.ro (ns.map D.int)), .val (nD k)] S = .ok (.ref S.length) (S ++ [spr p q 0]) := by
  obtain ⟨p, q, e⟩ := c_spring ns hl k hk
  exact ⟨p, q, call_new (ds := [.ro (ns.map D.int), nD k]) rfl e rfl⟩
/-! ### one turn's facts -/
theorem k_value (h : Tb t n) {a : List Nat} (ha : Dg a) (hl : a.length = n) (S : Store) : callIn false m_value [.val (.str (tx t)), .val (tupN a)] S = .ok (.val (nD (gd t (ix a)))) S := call_val (ds := [.str (tx t), tupN a]) rfl (c_value h ha hl)
theorem k_P (h : Tb t n) (S : Store) : callIn false m_places [.val (.str (tx t))] S = .ok (.val (nD n)) S := call_val (ds := [.str (tx t)]) rfl (c_P h)
theorem k_counting (h : Tb t n) (S : Store) : callIn false m_counting [.val (.str (tx t))] S = .ok (.val (tupN (cnt t n))) S := call_val (ds := [.str (tx t)]) rfl (c_counting h)
theorem k_law_counting (h : Tb t n) (S : Store) : callIn false m__law_counting [.val (.str (tx t))] S = .ok (.val (.lst ((cnt t n).map nD))) S := call_val (ds := [.str (tx t)]) rfl (c_law_counting h)
theorem k_digits (h : Tb t n) (S : Store) : callIn false m_digits_of [.val (.str (tx t))] S = .ok (.val (tupN (dg3 t))) S := call_val (ds := [.str (tx t)]) rfl (c_digits h)
theorem k_onto (h : Tb t n) (S : Store) : callIn false m_is_onto [.val (.str (tx t))] S = .ok (.val (.bl (full t))) S := call_val (ds := [.str (tx t)]) rfl (c_onto h)
theorem k_fixed (h : Tb t n) (S : Store) : callIn false m_fixed [.val (.str (tx t))] S = .ok (.val (tupN (fx t n))) S := call_val (ds := [.str (tx t)]) rfl (c_fixed h)
theorem k_table (S : Store) (i : Nat) (p q r : Int) (n : Nat) (hi : S[i]? = some (spr p q r)) (h1 : 1 ≤ n) (h3 : n ≤ 3) : ∃ t p' q' r', Tb t n ∧ callIn false m__law_table [.ref i, .val (nD n)] S = .ok (.val (.str (tx t))) (S.set i (spr p' q' r')) := by
  obtain ⟨t, p', q', r', S', h, e⟩ := c_table p q r n h1 h3
  exact ⟨t, p', q', r', h, call_keep1 hi rfl e rfl false⟩
theorem allA_ix {n k : Nat} {a : List Nat} (hn : n ≤ 3) (h : (allA n)[k]? = some a) : ix a = k := by
  have key : ∀ n ≤ 3, ((allA n).map ix) = List.range (3 ^ n) := by decide
  have e := key n hn
  have h2 : ((allA n).map ix)[k]? = some (ix a) := by rw [List.getElem?_map, h]; rfl
  rw [e] at h2
  obtain ⟨hl, e2⟩ := List.getElem?_eq_some_iff.mp h2
  rw [List.getElem_range] at e2
  exact e2.symm
theorem cnt_lt {x : Nat} (hx : x ∈ cnt t n) : x < n := by
  have := (List.mem_filter.mp hx).1
  exact List.mem_range.mp this
theorem cnt_len : (cnt t n).length ≤ n := by
  have := List.length_filter_le (fun k => (allA n).any fun a => df t a k) (List.range n)
  rw [List.length_range] at this
  exact this
theorem fx_lt {x : Nat} (hx : x ∈ fx t n) : x < 3 := List.mem_range.mp (List.mem_filter.mp hx).1
theorem fx_len : (fx t n).length ≤ 3 := List.length_filter_le (fun i => gd t (ix (List.replicate n i)) == i) (List.range 3)
theorem dg3_lt (h : Tb t n) {x : Nat} (hx : x ∈ dg3 t) : x < 1000 := by
  have := h.le
  have h0 := List.count_le_length (a := 0) (l := t)
  have h1 := List.count_le_length (a := 1) (l := t)
  have h2 := List.count_le_length (a := 2) (l := t)
  simp only [dg3, List.mem_cons, List.not_mem_nil, or_false] at hx
  omega
theorem full_dg (t : List Nat) : full t = !decide (0 ∈ dg3 t) := by
  rw [Bool.eq_iff_iff]
  simp only [full, dg3, Bool.and_eq_true, decide_eq_true_eq, Bool.not_eq_true', decide_eq_false_iff_not, List.mem_cons, List.not_mem_nil, or_false, not_or]
  have e : ∀ d, (¬ 0 = t.count d) ↔ d ∈ t := fun d => by
    rw [← List.count_pos_iff]
    omega
  rw [e, e, e]
theorem notin_lst (k : Nat) (l : List Nat) (S : Store) : fNotIn (.val (.int (k : Nat))) (.val (.lst (l.map nD))) S = .ok (.val (.bl (!decide (k ∈ l)))) S := by
  have e : fInB (.val (.int (k : Nat))) (.val (.lst (l.map nD))) S = some (decide (k ∈ l)) := by
    show (if (true && (l.map nD).all flatD) = true then some (inD (nD k) (l.map nD)) else _) = _
    rw [flat_nD, inD_nD]
    rfl
  unfold fNotIn
  rw [e]
theorem cnt_tx (t : List Nat) (d : Nat) (S : Store) : fCnt (.val (.str (tx t))) [.val (.str (sg d))] S = .ok (.val (nD (t.count d))) S := by
  show Res.ok (.val (.int (Txt.count (tx t) (sg d)))) S = _
  have e : (t.map (48 + ·)).count (48 + d) = t.count d := by
    rw [List.count_eq_countP, List.countP_map, List.count_eq_countP]
    congr 1
    funext x
    rw [Bool.eq_iff_iff]
    simp
  unfold sg
  rw [count_sg, tx_list, e]
  rfl
/-- the law's own fixed -/
theorem lc_fix (h : Tb t n) (ρ : Slots) (hρ : ρ[3]? = some (some (.val (.str (tx t))))) (h2 : ρ[2]? = some (some (.val (.int (n : Nat))))) (hl : 5 < ρ.length) (S : Store) :
    lcGo (elm (tgName 5) (cBin fEq (cCall 2 false m__law_at (cCons (cV 3) (cCons (cBin (fMul true) (cTup (cCons (cV 5) cNil)) (cV 2)) cNil))) (cV 5)) (cV 5) ρ) ((List.range 3).map nD) S = some ((fx t n).map nD, S) :=
  lcGo_if (p := fun i => gd t (ix (List.replicate n i)) == i) fun i hi => by
    have hi : i < 3 := List.mem_range.mp hi
    have e := k_at t (List.replicate n i) S h.dg (ix_ok h (dg_rep hi) (by simp)) h.le
    cases hb : gd t (ix (List.replicate n i)) == i <;> simp [List.getElem?_set, hρ, h2, hl, nD, rep_tup h, e, eq_int, beq_nat, hb]
end T3
namespace T3
open PySem PySem.Spec PyProof.Rows L2
noncomputable def g_WORDS : D := .tup [.str "set 0", .str "set 1", .str "set 2", .str "set 01", .str "set 02", .str "set 12", .str "part 0", .str "part 1", .str "part 2", .str "turn", .str "sums", .str "chain 0", .str "chain 1", .str "chain 2", .str "centre 0", .str "centre 1", .str "centre 2", .str "mixed"]
noncomputable def b__law_all_words : CS := sSeq (sAsg (tgName 0) (cLst true (cCons (cS "set 0") (cCons (cS "set 1") (cCons (cS "set 2") (cCons (cS "set 01") (cCons (cS "set 02") (cCons (cS "set 12") (cCons (cS "part 0") (cCons (cS "part 1") (cCons (cS "part 2") (cCons (cS "turn") (cCons (cS "sums") (cNil)))))))))))))) (sRet (cBin (fAdd false) (cV 0) (cLst true (cCons (cS "chain 0") (cCons (cS "chain 1") (cCons (cS "chain 2") (cCons (cS "centre 0") (cCons (cS "centre 1") (cCons (cS "centre 2") (cCons (cS "mixed") (cNil)))))))))))
noncomputable def m__law_all_words : Fn := runF 1 b__law_all_words
noncomputable def b__law_is_mixed : CS := sRet (cOr (cNot (cB1 (fAll) (cCons (cLc true [1] (ciV (cS "012")) (tgName 1) (cYes) (cBin fIn (cV 1) (cV 0))) (cNil)))) (cBin fLt (cB1 (fLen) (cCons (cCall 1 false m__law_counting (cCons (cV 0) (cNil))) (cNil))) (cI 2)))
noncomputable def m__law_is_mixed : Fn := runF 2 b__law_is_mixed
noncomputable def b__law_is_sum : CS := sSeq (sAsg (tgName 1) (cCall 1 false m__law_places (cCons (cV 0) (cNil)))) (sSeq (sAsg (tgName 2) (cCall 2 false m__law_at (cCons (cV 0) (cCons (cBin (fMul true) (cTup (cCons (cI 0) (cNil))) (cV 1)) (cNil))))) (sSeq (sAsg (tgName 3) (cLst false (cNil))) (sSeq (sFor (ciR1 (cV 1)) (tgName 4) (sSeq (sAsg (tgName 6) (cB1 (fTuple) (cCons (cLc true [8] (ciR1 (cV 1)) (tgName 8) (cYes) (cIf (cBin fEq (cV 8) (cV 4)) (cI 1) (cI 0))) (cNil)))) (sExp (cMt tyL fAppend (cV 3) (cCons (cBin fSub (cCall 2 false m__law_at (cCons (cV 0) (cCons (cV 6) (cNil)))) (cV 2)) cNil))))) (sSeq (sFor (ciV (cCall 1 false m__law_tuples (cCons (cV 1) (cNil)))) (tgName 5) (sSeq (sAsg (tgName 7) (cBin (fAdd true) (cV 2) (cB1 (fSum) (cCons (cLc true [4] (ciR1 (cV 1)) (tgName 4) (cYes) (cBin (fMul true) (cBin fIx (cV 3) (cV 4)) (cBin fIx (cV 5) (cV 4)))) (cNil))))) (sIf (cBin fNe (cBin fMod (cB1 (fInt) (cCons (cV 7) (cNil))) (cI 3)) (cCall 2 false m__law_at (cCons (cV 0) (cCons (cV 5) (cNil))))) (sRet (cB false)) (sNil)))) (sRet (cB true))))))
noncomputable def m__law_is_sum : Fn := runF 9 b__law_is_sum
noncomputable def b__law_is_in : CS := sSeq (sAsg (tgName 2) (cBin fIx (cMt tyS (fSplit true) (cV 0) (cCons (cS " ") cNil)) (cI 0))) (sSeq (sIf (cBin fEq (cV 2) (cS "set")) (sRet (cBin fIn (cB1 (fStr) (cCons (cBin fIx (cV 1) (cI 0)) (cNil))) (cBin fIx (cMt tyS (fSplit true) (cV 0) (cCons (cS " ") cNil)) (cI 1)))) (sNil)) (sSeq (sIf (cBin fEq (cV 0) (cS "turn")) (sRet (cBin fIn (cV 1) (cLst true (cCons (cTup (cCons (cI 0) (cCons (cI 1) (cNil)))) (cCons (cTup (cCons (cI 1) (cCons (cI 2) (cNil)))) (cCons (cTup (cCons (cI 2) (cCons (cI 0) (cNil)))) (cNil))))))) (sNil)) (sSeq (sIf (cBin fEq (cV 0) (cS "sums")) (sRet (cBin fEq (cBin fMod (cB1 (fInt) (cCons (cBin (fAdd true) (cBin fIx (cV 1) (cI 0)) (cBin fIx (cV 1) (cI 1))) (cNil))) (cI 3)) (cBin fMod (cB1 (fInt) (cCons (cBin (fAdd true) (cBin fIx (cV 1) (cI 2)) (cBin fIx (cV 1) (cI 3))) (cNil))) (cI 3)))) (sNil)) (sSeq (sIf (cBin fEq (cV 0) (cS "mixed")) (sRet (cOr (cBin fEq (cBin fIx (cV 1) (cI 0)) (cBin fIx (cV 1) (cI 1))) (cOr (cBin fEq (cBin fIx (cV 1) (cI 1)) (cBin fIx (cV 1) (cI 2))) (cBin fEq (cBin fIx (cV 1) (cI 0)) (cBin fIx (cV 1) (cI 2)))))) (sNil)) (sSeq (sAsg (tgName 3) (cB1 (fInt) (cCons (cBin fIx (cMt tyS (fSplit true) (cV 0) (cCons (cS " ") cNil)) (cI 1)) (cNil)))) (sSeq (sIf (cBin fEq (cBin fIx (cV 1) (cI 0)) (cBin fIx (cV 1) (cI 1))) (sRet (cB true)) (sNil)) (sSeq (sIf (cBin fEq (cV 2) (cS "part")) (sRet (cBin fNotIn (cV 3) (cLst true (cCons (cBin fIx (cV 1) (cI 0)) (cCons (cBin fIx (cV 1) (cI 1)) (cNil)))))) (sNil)) (sSeq (sIf (cBin fEq (cV 2) (cS "centre")) (sRet (cBin fIn (cV 3) (cLst true (cCons (cBin fIx (cV 1) (cI 0)) (cCons (cBin fIx (cV 1) (cI 1)) (cNil)))))) (sNil)) (sSeq (sAsg (tgName 4) (cBin fIx (cLst true (cCons (cLst true (cCons (cI 1) (cCons (cI 0) (cCons (cI 2) (cNil))))) (cCons (cLst true (cCons (cI 0) (cCons (cI 1) (cCons (cI 2) (cNil))))) (cCons (cLst true (cCons (cI 0) (cCons (cI 2) (cCons (cI 1) (cNil))))) (cNil))))) (cV 3))) (sRet (cBin fLt (cMt tyL fIndex (cV 4) (cCons (cBin fIx (cV 1) (cI 0)) cNil)) (cMt tyL fIndex (cV 4) (cCons (cBin fIx (cV 1) (cI 1)) cNil)))))))))))))
noncomputable def m__law_is_in : Fn := runF 5 b__law_is_in
noncomputable def b__law_relation : CS := sSeq (sAsg (tgName 1) (cIf (cBin fEq (cSl true (cV 0) none (some (cI 3))) (cS "set")) (cI 1) (cIf (cBin fEq (cV 0) (cS "sums")) (cI 4) (cIf (cBin fEq (cV 0) (cS "mixed")) (cI 3) (cI 2))))) (sRet (cLc false [2] (ciV (cCall 1 false m__law_tuples (cCons (cV 1) (cNil)))) (tgName 2) (cTru (cCall 2 false m__law_is_in (cCons (cV 0) (cCons (cV 2) (cNil))))) (cV 2)))
noncomputable def m__law_relation : Fn := runF 3 b__law_relation
noncomputable def b__law_rows_of : CS := sSeq (sAsg (tgName 2) (cLst true (cCons (cLst true (cNil)) (cNil)))) (sSeq (sFor (ciR1 (cV 1)) (tgName 3) (sSeq (sAsg (tgName 4) (cLst true (cNil))) (sSeq (sForV (cV 2) (tgName 5) (sAsg (tgName 4) (cBin (fAdd true) (cV 4) (cLcV true [6] (cV 0) (tgName 6) (cYes) (cBin (fAdd true) (cV 5) (cLst true (cCons (cV 6) (cNil)))))))) (sAsg (tgName 2) (cV 4))))) (sRet (cV 2)))
noncomputable def m__law_rows_of : Fn := runF 7 b__law_rows_of
noncomputable def b__law_keeps : CS := sSeq (sIf (cBin fEq (cV 1) (cS "mixed")) (sRet (cCall 1 true m__law_is_mixed (cCons (cV 0) (cNil)))) (sNil)) (sSeq (sIf (cBin fEq (cV 1) (cS "sums")) (sRet (cCall 1 true m__law_is_sum (cCons (cV 0) (cNil)))) (sNil)) (sSeq (sAsg (tgName 2) (cCall 1 false m__law_relation (cCons (cV 1) (cNil)))) (sSeq (sFor (ciV (cCall 2 false m__law_rows_of (cCons (cV 2) (cCons (cCall 1 false m__law_places (cCons (cV 0) (cNil))) (cNil))))) (tgName 3) (sSeq (sAsg (tgName 4) (cB1 (fTuple) (cCons (cLc true [5] (ciR1 (cB1 (fLen) (cCons (cBin fIx (cV 2) (cI 0)) (cNil)))) (tgName 5) (cYes) (cCall 2 false m__law_at (cCons (cV 0) (cCons (cLcV true [6] (cV 3) (tgName 6) (cYes) (cBin fIx (cV 6) (cV 5))) (cNil))))) (cNil)))) (sIf (cBin fNotIn (cV 4) (cV 2)) (sRet (cB false)) (sNil)))) (sRet (cB true)))))
noncomputable def m__law_keeps : Fn := runF 7 b__law_keeps
noncomputable def b__law_rows_right : CS := sSeq (sAsg (tgName 3) (cCall 1 false m__law_relation (cCons (cV 1) (cNil)))) (sSeq (sIf (cOr (cNot (cTru (cIsi "tuple" (cV 2)))) (cBin fNe (cB1 (fLen) (cCons (cV 2) (cNil))) (cCall 1 false m__law_places (cCons (cV 0) (cNil))))) (sRet (cB false)) (sNil)) (sSeq (sIf (cNot (cTru (cB1 (fAll) (cCons (cLcV true [6] (cV 2) (tgName 6) (cYes) (cAnd (cIsi "tuple" (cV 6)) (cBin fIn (cV 6) (cV 3)))) (cNil))))) (sRet (cB false)) (sNil)) (sSeq (sAsg (tgName 4) (cB1 (fTuple) (cCons (cLc true [5] (ciR1 (cB1 (fLen) (cCons (cBin fIx (cV 3) (cI 0)) (cNil)))) (tgName 5) (cYes) (cCall 2 false m__law_at (cCons (cV 0) (cCons (cLcV true [6] (cV 2) (tgName 6) (cYes) (cBin fIx (cV 6) (cV 5))) (cNil))))) (cNil)))) (sRet (cBin fNotIn (cV 4) (cV 3))))))
noncomputable def m__law_rows_right : Fn := runF 7 b__law_rows_right
noncomputable def b_is_word : CS := sRet (cAnd (cIsi "str" (cV 0)) (cBin fIn (cV 0) (cK g_WORDS)))
noncomputable def m_is_word : Fn := runF 1 b_is_word
noncomputable def b_check_word : CS := sIf (cNot (cTru (cCall 1 false m_is_word (cCons (cV 0) (cNil))))) (sRaiseX 3 "given" (cV 0)) (sNil)
noncomputable def m_check_word : Fn := runF 1 b_check_word
noncomputable def b_chain_of : CS := sSeq (sAsg (tgName 1) (cLc true [2] (ciR1 (cI 3)) (tgName 2) (cBin fNe (cV 2) (cV 0)) (cV 2))) (sRet (cTup (cCons (cBin fIx (cV 1) (cI 0)) (cCons (cV 0) (cCons (cBin fIx (cV 1) (cI 1)) (cNil))))))
noncomputable def m_chain_of : Fn := runF 3 b_chain_of
noncomputable def b_is_in_pairs : CS := sSeq (sAsg (tgAny 2 (tgCons (tgName 3) (tgCons (tgName 4) (tgNil)))) (cV 1)) (sSeq (sIf (cBin fEq (cV 0) (cS "turn")) (sRet (cBin fEq (cV 4) (cBin fMod (cBin (fAdd true) (cV 3) (cI 1)) (cI 3)))) (sNil)) (sSeq (sAsg (tgAny 2 (tgCons (tgName 5) (tgCons (tgName 6) (tgNil)))) (cMt tyS (fSplit true) (cV 0) (cCons (cS " ") cNil))) (sSeq (sIf (cBin fEq (cV 3) (cV 4)) (sRet (cB true)) (sNil)) (sSeq (sIf (cBin fEq (cV 5) (cS "part")) (sRet (cBin fNotIn (cB1 (fInt) (cCons (cV 6) (cNil))) (cV 1))) (sNil)) (sSeq (sIf (cBin fEq (cV 5) (cS "centre")) (sRet (cBin fIn (cB1 (fInt) (cCons (cV 6) (cNil))) (cV 1))) (sNil)) (sSeq (sAsg (tgName 2) (cCall 1 false m_chain_of (cCons (cB1 (fInt) (cCons (cV 6) (cNil))) (cNil)))) (sRet (cBin fLt (cMt tyT fTIndex (cV 2) (cCons (cV 3) cNil)) (cMt tyT fTIndex (cV 2) (cCons (cV 4) cNil))))))))))
noncomputable def m_is_in_pairs : Fn := runF 7 b_is_in_pairs
noncomputable def b_is_in : CS := sSeq (sIf (cBin fEq (cSl true (cV 0) none (some (cI 4))) (cS "set ")) (sRet (cBin fIn (cB1 (fStr) (cCons (cBin fIx (cV 1) (cI 0)) (cNil))) (cSl true (cV 0) (some (cI 4)) none))) (sNil)) (sSeq (sIf (cBin fEq (cV 0) (cS "sums")) (sRet (cBin fEq (cBin fMod (cBin fSub (cBin fSub (cBin (fAdd true) (cBin fIx (cV 1) (cI 0)) (cBin fIx (cV 1) (cI 1))) (cBin fIx (cV 1) (cI 2))) (cBin fIx (cV 1) (cI 3))) (cI 3)) (cI 0))) (sNil)) (sSeq (sIf (cBin fEq (cV 0) (cS "mixed")) (sRet (cBin fLt (cLenSet (cV 1)) (cI 3))) (sNil)) (sRet (cCall 2 true m_is_in_pairs (cCons (cV 0) (cCons (cV 1) (cNil)))))))
noncomputable def m_is_in : Fn := runF 2 b_is_in
noncomputable def b_made_by : CS := sRet (cB1 (fTuple) (cCons (cLc true [2] (ciR1 (cB1 (fLen) (cCons (cBin fIx (cV 1) (cI 0)) (cNil)))) (tgName 2) (cYes) (cCall 2 false m_value_at (cCons (cV 0) (cCons (cLcV true [3] (cV 1) (tgName 3) (cYes) (cBin fIx (cV 3) (cV 2))) (cNil))))) (cNil)))
noncomputable def m_made_by : Fn := runF 4 b_made_by
noncomputable def b_length_of : CS := sSeq (sIf (cBin fEq (cSl true (cV 0) none (some (cI 4))) (cS "set ")) (sRet (cI 1)) (sNil)) (sRet (cDGetC [("sums", 4), ("mixed", 3)] (cV 0) (cI 2)))
noncomputable def m_length_of : Fn := runF 1 b_length_of
noncomputable def b_relation_of : CS := sRet (cLc false [1] (ciV (cCall 1 false m_all_arguments (cCons (cCall 1 false m_length_of (cCons (cV 0) (cNil))) (cNil)))) (tgName 1) (cTru (cCall 2 false m_is_in (cCons (cV 0) (cCons (cV 1) (cNil))))) (cV 1))
noncomputable def m_relation_of : Fn := runF 2 b_relation_of
noncomputable def b_out_of : CS := sSeq (sAsg (tgName 2) (cCall 1 false m_relation_of (cCons (cV 1) (cNil)))) (sSeq (sForG 2 (gfRows 3) (cCons (cV 2) (cCons (cCall 1 false m_places_of (cCons (cV 0) (cNil))) (cNil))) (tgName 3) (sIf (cNot (cTru (cCall 2 false m_is_in (cCons (cV 1) (cCons (cCall 2 false m_made_by (cCons (cV 0) (cCons (cV 3) (cNil)))) (cNil)))))) (sRet (cV 3)) (sNil))) (sRet (cN)))
noncomputable def m_out_of : Fn := runF 4 b_out_of
noncomputable def b_is_kept : CS := sRet (cBin fIsN (cCall 2 false m_out_of (cCons (cV 0) (cCons (cV 1) (cNil)))) (cN))
noncomputable def m_is_kept : Fn := runF 2 b_is_kept
noncomputable def b_keeps : CS := sSeq (sExp (cCall 1 false m_check_table (cCons (cV 0) (cNil)))) (sSeq (sExp (cCall 1 false m_check_word (cCons (cV 1) (cNil)))) (sRet (cCall 2 true m_is_kept (cCons (cV 0) (cCons (cV 1) (cNil))))))
noncomputable def m_keeps : Fn := runF 2 b_keeps
noncomputable def b_words_of : CS := sRet (cB1 (fTuple) (cCons (cLc true [1] (ciV (cK g_WORDS)) (tgName 1) (cTru (cCall 2 false m_is_kept (cCons (cV 0) (cCons (cV 1) (cNil))))) (cV 1)) (cNil)))
noncomputable def m_words_of : Fn := runF 2 b_words_of
noncomputable def b_kept_by : CS := sSeq (sExp (cCall 1 false m_check_table (cCons (cV 0) (cNil)))) (sRet (cCall 1 true m_words_of (cCons (cV 0) (cNil))))
noncomputable def m_kept_by : Fn := runF 1 b_kept_by
noncomputable def b_leads_out : CS := sSeq (sExp (cCall 1 false m_check_table (cCons (cV 0) (cNil)))) (sSeq (sExp (cCall 1 false m_check_word (cCons (cV 1) (cNil)))) (sRet (cCall 2 true m_out_of (cCons (cV 0) (cCons (cV 1) (cNil))))))
noncomputable def m_leads_out : Fn := runF 2 b_leads_out
noncomputable def b_keepers_of : CS := sRet (cLc false [1] (ciV (cCall0 false m_all_tables)) (tgName 1) (cTru (cCall 2 false m_is_kept (cCons (cV 1) (cCons (cV 0) (cNil))))) (cV 1))
noncomputable def m_keepers_of : Fn := runF 2 b_keepers_of
noncomputable def b_keepers : CS := sSeq (sExp (cCall 1 false m_check_word (cCons (cV 0) (cNil)))) (sRet (cB1 (fTuple) (cCons (cCall 1 false m_keepers_of (cCons (cV 0) (cNil))) (cNil))))
noncomputable def m_keepers : Fn := runF 1 b_keepers
noncomputable def b_table_of_number : CS := sSeq (sAsg (tgName 1) (cLst false (cNil))) (sSeq (sFor (ciR1 (cI 9)) (tgName 2) (sSeq (sExp (cMt tyL fAppend (cV 1) (cCons (cBin fMod (cV 0) (cI 3)) cNil))) (sAsg (tgName 0) (cBin fFdv (cV 0) (cI 3))))) (sRet (cCall 1 true m_table_from (cCons (cRev2 true (cV 1)) (cNil)))))
noncomputable def m_table_of_number : Fn := runF 3 b_table_of_number
noncomputable def b_least_breaker : CS := sSeq (sExp (cCall 1 false m_check_word (cCons (cV 0) (cNil)))) (sSeq (sFor (ciV (cCall0 false m_all_tables)) (tgName 1) (sIf (cNot (cTru (cCall 2 false m_is_kept (cCons (cV 1) (cCons (cV 0) (cNil)))))) (sRet (cV 1)) (sNil))) (sSeq (sAsg (tgName 2) (cI 0)) (sSeq (whileN (cTru (cCall 2 false m_is_kept (cCons (cCall 1 false m_table_of_number (cCons (cV 2) (cNil))) (cCons (cV 0) (cNil))))) (sAugI 2 (cI 1)) 200) (sRet (cCall 1 true m_table_of_number (cCons (cV 2) (cNil)))))))
noncomputable def m_least_breaker : Fn := runF 3 b_least_breaker
noncomputable def b__law_moved : CS := sRet (cB1 (fSortD) (cCons (cLc true [2] (ciV (cCall 1 false m__law_relation (cCons (cV 0) (cNil)))) (tgName 2) (cYes) (cB1 (fTuple) (cCons (cLcV true [3] (cV 2) (tgName 3) (cYes) (cBin fIx (cV 1) (cV 3))) (cNil)))) (cNil)))
noncomputable def m__law_moved : Fn := runF 4 b__law_moved
noncomputable def b_check_order : CS := sSeq (sIf (cOr (cNot (cTru (cIsi "tuple" (cV 1)))) (cNot (cTru (cB1 (fAll) (cCons (cLcV true [2] (cV 1) (tgName 2) (cYes) (cCall 3 false m_is_between (cCons (cV 2) (cCons (cI 0) (cCons (cBin fSub (cV 0) (cI 1)) (cNil)))))) (cNil)))))) (sRaiseX 6 "given" (cV 1)) (sNil)) (sIf (cBin fNe (cB1 (fSortI) (cCons (cLcV true [2] (cV 1) (tgName 2) (cYes) (cB1 (fInt) (cCons (cV 2) (cNil)))) (cNil))) (cListR true (cV 0))) (sRaiseX 6 "given" (cV 1)) (sNil))
noncomputable def m_check_order : Fn := runF 3 b_check_order
noncomputable def b_renamed_word_of : CS := sSeq (sIf (cBin fIn (cV 0) (cTup (cCons (cS "turn") (cCons (cS "sums") (cCons (cS "mixed") (cNil)))))) (sRet (cV 0)) (sNil)) (sSeq (sAsg (tgAny 2 (tgCons (tgName 2) (tgCons (tgName 3) (tgNil)))) (cMt tyS (fSplit true) (cV 0) (cCons (cS " ") cNil))) (sSeq (sIf (cBin fEq (cV 2) (cS "set")) (sRet (cBin (fAdd false) (cS "set ") (cMt tyS fJoin (cS "") (cCons (cB1 (fSortD) (cCons (cLcV true [4] (cV 3) (tgName 4) (cYes) (cB1 (fStr) (cCons (cBin fIx (cV 1) (cB1 (fInt) (cCons (cV 4) (cNil)))) (cNil)))) (cNil))) cNil)))) (sNil)) (sRet (cJs [cFv (cV 2), cS " ", cFv (cBin fIx (cV 1) (cB1 (fInt) (cCons (cV 3) (cNil))))]))))
noncomputable def m_renamed_word_of : Fn := runF 5 b_renamed_word_of
noncomputable def b_renamed_word : CS := sSeq (sExp (cCall 1 false m_check_word (cCons (cV 0) (cNil)))) (sSeq (sExp (cCall 2 false m_check_order (cCons (cI 3) (cCons (cV 1) (cNil))))) (sRet (cCall 2 true m_renamed_word_of (cCons (cV 0) (cCons (cV 1) (cNil))))))
noncomputable def m_renamed_word : Fn := runF 2 b_renamed_word
noncomputable def b_relation : CS := sSeq (sExp (cCall 1 false m_check_word (cCons (cV 0) (cNil)))) (sRet (cB1 (fTuple) (cCons (cCall 1 false m_relation_of (cCons (cV 0) (cNil))) (cNil))))
noncomputable def m_relation : Fn := runF 1 b_relation
noncomputable def b_put_in : CS := sSeq (sAsg (tgName 2) (cCall 1 false m_places_of (cCons (cBin fIx (cV 1) (cI 0)) (cNil)))) (sSeq (sAsg (tgName 3) (cLst false (cNil))) (sSeq (sFor (ciV (cCall 1 false m_all_arguments (cCons (cV 2) (cNil)))) (tgName 4) (sExp (cMt tyL fAppend (cV 3) (cCons (cCall 2 false m_value_at (cCons (cV 0) (cCons (cLcV true [5] (cV 1) (tgName 5) (cYes) (cCall 2 false m_value_at (cCons (cV 5) (cCons (cV 4) (cNil))))) (cNil)))) cNil)))) (sRet (cCall 1 true m_table_from (cCons (cV 3) (cNil))))))
noncomputable def m_put_in : Fn := runF 6 b_put_in
noncomputable def b_put_together : CS := sSeq (sExp (cCall 1 false m_check_table (cCons (cV 0) (cNil)))) (sSeq (sIf (cOr (cNot (cTru (cIsi "tuple" (cV 1)))) (cOr (cBin fNe (cB1 (fLen) (cCons (cV 1) (cNil))) (cCall 1 false m_places_of (cCons (cV 0) (cNil)))) (cNot (cTru (cB1 (fAll) (cCons (cLcV true [2] (cV 1) (tgName 2) (cYes) (cCall 1 false m_is_table (cCons (cV 2) (cNil)))) (cNil))))))) (sRaiseX 5 "given" (cV 1)) (sNil)) (sSeq (sIf (cBin fGt (cLenSet (cLcV true [2] (cV 1) (tgName 2) (cYes) (cB1 (fLen) (cCons (cV 2) (cNil))))) (cI 1)) (sRaiseX 5 "given" (cV 1)) (sNil)) (sRet (cCall 2 true m_put_in (cCons (cV 0) (cCons (cV 1) (cNil)))))))
noncomputable def m_put_together : Fn := runF 3 b_put_together
noncomputable def b_turned_round : CS := sSeq (sExp (cCall 1 false m_check_table (cCons (cV 0) (cNil)))) (sSeq (sAsg (tgName 2) (cCall 1 false m_places_of (cCons (cV 0) (cNil)))) (sSeq (sExp (cCall 2 false m_check_order (cCons (cV 2) (cCons (cV 1) (cNil))))) (sSeq (sAsg (tgName 3) (cLc true [4] (ciV (cCall 1 false m_all_arguments (cCons (cV 2) (cNil)))) (tgName 4) (cYes) (cCall 2 false m_value_at (cCons (cV 0) (cCons (cLcV true [5] (cV 1) (tgName 5) (cYes) (cBin fIx (cV 4) (cV 5))) (cNil)))))) (sRet (cCall 1 true m_table_from (cCons (cV 3) (cNil)))))))
noncomputable def m_turned_round : Fn := runF 6 b_turned_round
noncomputable def b__law_out_moved : CS := sSeq (sAsg (tgName 3) (cCall 1 false m_relation (cCons (cV 2) (cNil)))) (sSeq (sFor (ciV (cLst true (cCons (cV 1) (cCons (cB1 (fTuple) (cCons (cLcV true [6] (cV 1) (tgName 6) (cYes) (cRev2 true (cV 6))) (cNil))) (cNil))))) (tgName 4) (sIf (cTru (cB1 (fAll) (cCons (cLcV true [6] (cV 4) (tgName 6) (cYes) (cBin fIn (cV 6) (cV 3))) (cNil)))) (sSeq (sAsg (tgName 5) (cB1 (fTuple) (cCons (cLc true [7] (ciR1 (cB1 (fLen) (cCons (cBin fIx (cV 4) (cI 0)) (cNil)))) (tgName 7) (cYes) (cCall 2 false m__law_at (cCons (cV 0) (cCons (cLcV true [6] (cV 4) (tgName 6) (cYes) (cBin fIx (cV 6) (cV 7))) (cNil))))) (cNil)))) (sIf (cBin fNotIn (cV 5) (cV 3)) (sRet (cB true)) (sNil))) (sNil))) (sRet (cB false)))
noncomputable def m__law_out_moved : Fn := runF 8 b__law_out_moved
noncomputable def b_renamed_of : CS := sSeq (sAsg (tgName 2) (cBin (fMul false) (cLst true (cCons (cI 0) (cNil))) (cB1 (fLen) (cCons (cV 0) (cNil))))) (sSeq (sFor (ciV (cCall 1 false m_all_arguments (cCons (cCall 1 false m_places_of (cCons (cV 0) (cNil))) (cNil)))) (tgName 3) (sAsg (tgSub (cV 2) (cCall 1 false m_index_of (cCons (cLcV true [4] (cV 3) (tgName 4) (cYes) (cBin fIx (cV 1) (cV 4))) (cNil)))) (cBin fIx (cV 1) (cCall 2 false m_value_at (cCons (cV 0) (cCons (cV 3) (cNil))))))) (sRet (cCall 1 true m_table_from (cCons (cV 2) (cNil)))))
noncomputable def m_renamed_of : Fn := runF 5 b_renamed_of
noncomputable def b_renamed : CS := sSeq (sExp (cCall 1 false m_check_table (cCons (cV 0) (cNil)))) (sSeq (sExp (cCall 2 false m_check_order (cCons (cI 3) (cCons (cV 1) (cNil))))) (sRet (cCall 2 true m_renamed_of (cCons (cV 0) (cCons (cV 1) (cNil))))))
noncomputable def m_renamed : Fn := runF 2 b_renamed
end T3
namespace T3
open PySem PySem.Spec PyProof.Rows L2
/-! ### the eighteen relations -/
noncomputable def Wds : List Str := ["set 0", "set 1", "set 2", "set 01", "set 02", "set 12", "part 0", "part 1", "part 2", "turn", "sums", "chain 0", "chain 1", "chain 2", "centre 0", "centre 1", "centre 2", "mixed"]
noncomputable def prs (f : Nat → Nat → Bool) : List (List Nat) := (allA 2).filter fun a => f (gd a 0) (gd a 1)
noncomputable def ltC (m x y : Nat) : Bool := let r : Nat → Nat := fun z => if z = m then 1 else if z < (if m = 0 then 2 else if m = 1 then 2 else 1) then (if z = (if m = 0 then 1 else 0) then 0 else 2) else 2; x == y || r x < r y
noncomputable def relN (w : Str) : List (List Nat) :=
  if w = "set 0" then [[0]] else if w = "set 1" then [[1]] else if w = "set 2" then [[2]] else if w = "set 01" then [[0], [1]] else if w = "set 02" then [[0], [2]] else if w = "set 12" then [[1], [2]]
  else if w = "part 0" then prs fun x y => x == y || (x != 0 && y != 0) else if w = "part 1" then prs fun x y => x == y || (x != 1 && y != 1) else if w = "part 2" then prs fun x y => x == y || (x != 2 && y != 2)
  else if w = "turn" then [[0, 1], [1, 2], [2, 0]] else if w = "sums" then (allA 4).filter fun a => (gd a 0 + gd a 1) % 3 == (gd a 2 + gd a 3) % 3
  else if w = "chain 0" then prs fun x y => x == y || (x == 1 && y == 0) || (x == 0 && y == 2) || (x == 1 && y == 2)
  else if w = "chain 1" then prs fun x y => x ≤ y
  else if w = "chain 2" then prs fun x y => x == y || (x == 0 && y == 2) || (x == 2 && y == 1) || (x == 0 && y == 1)
  else if w = "centre 0" then prs fun x y => x == y || x == 0 || y == 0 else if w = "centre 1" then prs fun x y => x == y || x == 1 || y == 1 else if w = "centre 2" then prs fun x y => x == y || x == 2 || y == 2
  else (allA 3).filter fun a => gd a 0 == gd a 1 || gd a 1 == gd a 2 || gd a 0 == gd a 2
noncomputable def lenW (w : Str) : Nat := (gd0 (relN w)).length where gd0 : List (List Nat) → List Nat := fun l => l.headD []
/-! ### data read back -/
noncomputable def blOf : Option D → Option Bool
  | some (.bl b) => some b
  | _ => none
theorem blOf_some {x : Option D} {b : Bool} (h : blOf x = some b) : x = some (.bl b) := by
  cases x with
  | none => cases h
  | some d => cases d <;> simp [blOf] at h; rw [h]
noncomputable def natOf : D → Option Nat
  | .int (.ofNat n) => some n
  | _ => none
theorem natOf_some {x : D} {n : Nat} (h : natOf x = some n) : x = nD n := by
  cases x with
  | int i => cases i <;> simp [natOf] at h; rw [h]; rfl
  | _ => cases h
noncomputable def natsOf : List D → Option (List Nat)
  | [] => some []
  | d :: r => match natOf d, natsOf r with
    | some n, some l => some (n :: l)
    | _, _ => none
theorem natsOf_some : ∀ {ds : List D} {l : List Nat}, natsOf ds = some l → ds = l.map nD
  | [], l, h => by cases h; rfl
  | d :: r, l, h => by
    simp only [natsOf] at h
    split at h <;> cases h
    rename_i n l h1 h2
    rw [natOf_some h1, natsOf_some h2, List.map_cons]
noncomputable def rowsOf : List D → Option (List (List Nat))
  | [] => some []
  | .tup ds :: r => match natsOf ds, rowsOf r with
    | some n, some l => some (n :: l)
    | _, _ => none
  | _ :: _ => none
theorem rowsOf_some : ∀ {ds : List D} {l : List (List Nat)}, rowsOf ds = some l → ds = l.map tupN
  | [], l, h => by cases h; rfl
  | .tup ds :: r, l, h => by
    simp only [rowsOf] at h
    split at h <;> cases h
    rename_i n l h1 h2
    rw [natsOf_some h1, rowsOf_some h2, List.map_cons]
    rfl
  | .non :: _, _, h | .bl _ :: _, _, h | .int _ :: _, _, h | .str _ :: _, _, h | .lst _ :: _, _, h | .ro _ :: _, _, h | .wt _ :: _, _, h | .dic _ _ :: _, _, h | .ins _ _ _ :: _, _, h => by cases h
noncomputable def lstOf : Option D → Option (List D)
  | some (.lst ds) => some ds
  | _ => none
theorem lstOf_some {x : Option D} {ds : List D} (h : lstOf x = some ds) : x = some (.lst ds) := by
  cases x with
  | none => cases h
  | some d => cases d <;> simp [lstOf] at h; rw [h]
noncomputable def wD (w : Str) : D := .str w
theorem c_is_in : ∀ w ∈ Wds, ∀ a ∈ allA (lenW w), gives (m_is_in [.val (wD w), .val (tupN a)] []) = some (.bl ((relN w).contains a)) := by
  have h : ∀ w ∈ Wds, ∀ a ∈ allA (lenW w), blOf (gives (m_is_in [.val (wD w), .val (tupN a)] [])) = some ((relN w).contains a) := by decide +kernel
  exact fun w hw a ha => blOf_some (h w hw a ha)
theorem c_relation_of : ∀ w ∈ Wds, gives (m_relation_of [.val (wD w)] []) = some (.lst ((relN w).map tupN)) := by
  have h : ∀ w ∈ Wds, (lstOf (gives (m_relation_of [.val (wD w)] []))).bind rowsOf = some (relN w) := by decide +kernel
  intro w hw
  have h1 := h w hw
  rw [Option.bind_eq_some_iff] at h1
  obtain ⟨ds, e1, e2⟩ := h1
  rw [lstOf_some e1, rowsOf_some e2]
theorem c__relation : ∀ w ∈ Wds, gives (m__law_relation [.val (wD w)] []) = some (.lst ((relN w).map tupN)) := by
  have h : ∀ w ∈ Wds, (lstOf (gives (m__law_relation [.val (wD w)] []))).bind rowsOf = some (relN w) := by decide +kernel
  intro w hw
  have h1 := h w hw
  rw [Option.bind_eq_some_iff] at h1
  obtain ⟨ds, e1, e2⟩ := h1
  rw [lstOf_some e1, rowsOf_some e2]
theorem rel_ok : ∀ w ∈ Wds, ∀ a ∈ relN w, Dg a ∧ a.length = lenW w := by
  have h : ∀ w ∈ Wds, ∀ a ∈ relN w, (a.all (· < 3)) = true ∧ a.length = lenW w := by decide +kernel
  intro w hw a ha
  obtain ⟨h1, h2⟩ := h w hw a ha
  exact ⟨fun x hx => of_decide_eq_true (List.all_eq_true.mp h1 x hx), h2⟩
theorem rel_ne : ∀ w ∈ Wds, relN w ≠ [] ∧ 1 ≤ lenW w ∧ lenW w ≤ 4 := by decide +kernel
end T3
namespace T3
open PySem PySem.Spec PyProof.Rows L2
@[simp ↓] theorem ap_ForG {n : Nat} {gf : List D → Option (List D)} {c : CA} {t : CT} {b : CS} {ρ : Slots} {S : Store} : sForG n gf c t b ρ S = (match c ρ S with
  | .ok xs S1 => (match valsOf xs with
    | some ds => if ds.length = n then (match gf ds with
      | some ys => forL (lb t b) ys ρ S1
      | none => .bad) else .bad
    | none => .bad)
  | _ => .bad) := rfl
/-- a call whose answer is data -/
theorem call_vb {f : Fn} {xs : List A} {ds : List D} {d : D} {S S1 : Store} (hx : xs = ds.map A.val) (h : f xs [] = .ok (.val d) S1) (b : Bool) : callIn b f xs S = .ok (.val d) S := by
  subst hx
  unfold callIn
  rw [vals_refs, if_pos List.nodup_nil]
  simp only [getAll, List.all_nil, if_true]
  rw [vals_renum, h]
  simp [back, putAll]
variable {t : List Nat} {n : Nat}
/-! ### the index of a list -/
noncomputable def lstN (a : List Nat) : D := .lst (a.map nD)
theorem c_indexL (a : List Nat) (S : Store) : m_index_of [.val (lstN a)] S = .ok (.val (nD (ix a))) S := by
  unfold m_index_of b_index_of runF lstN
  simp
  generalize hq : forL _ _ _ _ = q
  obtain ⟨ρ', S', rfl, z, rfl, rfl⟩ := forL_q hq (fun i ρ S1 => ∃ z, ρ = [some (.val (.lst (a.map nD))), some (.val (nD (ix (a.take i)))), z] ∧ S1 = S) ⟨none, rfl, rfl⟩ (by
    rintro i d ρ S1 hd ⟨z, rfl, rfl⟩
    obtain ⟨x, hx, rfl⟩ := map_get hd
    simp [nD, mul3, ix_take hx])
  simp
theorem k_value_atL (b : Bool) (h : Tb t n) {a : List Nat} (ha : Dg a) (hl : a.length = n) (S : Store) : callIn b m_value_at [.val (.str (tx t)), .val (lstN a)] S = .ok (.val (nD (gd t (ix a)))) S := by
  refine call_vb (ds := [.str (tx t), lstN a]) (S1 := []) rfl ?_ b
  unfold m_value_at b_value_at runF
  have h0 : ∀ S, callIn false m_index_of [.val (lstN a)] S = .ok (.val (nD (ix a))) S := fun S => call_val (ds := [lstN a]) rfl (by rw [c_indexL]; rfl)
  have h1 : ∀ S, fIx (.val (.str (tx t))) (.val (nD (ix a))) S = .ok (.val (.str (sg (gd t (ix a))))) S := fun S => ix_tx (ix_ok h ha hl) h.le
  simp [h0, h1, int_sgS (dg_get h.dg _)]
/-! ### what rows make -/
noncomputable def mk (t : List Nat) (rows : List (List Nat)) (len : Nat) : List Nat := (List.range len).map fun k => gd t (ix (rows.map fun r => gd r k))
structure Rws (rows : List (List Nat)) (n len : Nat) : Prop where
  dg : ∀ r ∈ rows, Dg r ∧ r.length = len
  len : rows.length = n
theorem gd_dg {r : List Nat} (h : Dg r) (k : Nat) : gd r k < 3 := dg_get h k
theorem Rws.at {rows : List (List Nat)} {len : Nat} (h : Rws rows n len) (k : Nat) : Dg (rows.map fun r => gd r k) ∧ (rows.map fun r => gd r k).length = n := by
  refine ⟨fun x hx => ?_, by rw [List.length_map, h.len]⟩
  obtain ⟨r, hr, rfl⟩ := List.mem_map.mp hx
  exact gd_dg (h.dg r hr).1 k
theorem mk_dg (ht : Tb t n) {rows : List (List Nat)} {len : Nat} : Dg (mk t rows len) := fun x hx => by
  obtain ⟨k, _, rfl⟩ := List.mem_map.mp hx
  exact dg_get ht.dg _
theorem ix_row {r : List Nat} {k : Nat} (h : k < r.length) (S : Store) : fIx (.val (tupN r)) (.val (nD k)) S = .ok (.val (nD (gd r k))) S := by
  unfold tupN nD
  rw [ix_tup', List.length_map, ixN_nat h]
  simp [List.getElem?_eq_getElem h, gd, nD]
theorem lst_rows {rows : List (List Nat)} {len k : Nat} (h : Rws rows n len) (hk : k < len) (ρ : Slots) (hρ : ρ.length = 4) (h2 : ρ[2]? = some (some (.val (nD k)))) (S : Store) :
    lcGo (elm (tgName 3) cYes (cBin fIx (cV 3) (cV 2)) ρ) (rows.map tupN) S = some ((rows.map fun r => gd r k).map nD, S) := by
  rw [List.map_map]
  refine lcGo_on fun r hr => ?_
  have e := ix_row (S := S) (by rw [(h.dg r hr).2]; exact hk : k < r.length)
  have e3 : (ρ.set 3 (some (.val (tupN r))))[3]? = some (some (.val (tupN r))) := by rw [List.getElem?_set_self (by omega)]
  have e2 : (ρ.set 3 (some (.val (tupN r))))[2]? = some (some (.val (nD k))) := by rw [List.getElem?_set_ne (by omega)]; exact h2
  simp [e3, e2, e]
theorem c_made_by (ht : Tb t n) {rows : List (List Nat)} {len : Nat} (h : Rws rows n len) (hl : len ≤ 1000) (S : Store) : m_made_by [.val (.str (tx t)), .val (.tup (rows.map tupN))] S = .ok (.val (tupN (mk t rows len))) S := by
  have hn := ht.n1
  have hn3 := ht.n3
  cases rows with
  | nil => have := h.len; simp at this; omega
  | cons r0 rest =>
    have hr0 := (h.dg r0 List.mem_cons_self).2
    have hlen : rest.length + 1 = n := by have := h.len; simpa using this
    have key : ∀ S, lcGo (elm (tgName 2) cYes (cCall 2 false m_value_at (cCons (cV 0) (cCons (cLcV true [3] (cV 1) (tgName 3) cYes (cBin fIx (cV 3) (cV 2))) cNil))) [some (.val (.str (tx t))), some (.val (.tup ((r0 :: rest).map tupN))), none, none]) ((List.range len).map nD) S =
        some ((mk t (r0 :: rest) len).map nD, S) := fun S => by
      unfold mk
      rw [List.map_map]
      refine lcGo_on fun k hk => ?_
      have hk : k < len := List.mem_range.mp hk
      obtain ⟨q1, q2⟩ := h.at k
      have e := fun S => k_value_atL false ht q1 q2 S
      have e2 := fun S => lst_rows h hk [some (.val (.str (tx t))), some (.val (.tup ((r0 :: rest).map tupN))), some (.val (nD k)), none] rfl rfl S
      have hz : ((r0 :: rest).map fun r => gd r k).length ≤ 16000000 := by rw [q2]; omega
      unfold lstN at e
      simp only [List.map_cons] at e2 e hz ⊢
      simp at e2 e hz ⊢
      simp [e2, e, hz]
    unfold m_made_by b_made_by runF
    have hz : (mk t (r0 :: rest) len).length ≤ 16000000 := by unfold mk; rw [List.length_map, List.length_range]; omega
    have hz1 : len ≤ 1000000 := by omega
    have hz2 : (len : Int) ≤ 1000000 := by omega
    have hlt : ∀ S, fLen [.val (tupN r0)] S = .ok (.val (.int len)) S := fun S => by rw [← hr0]; simp [tupN]
    simp only [List.map_cons] at key
    simp [hlt, range_nD, hz2, key, hz]
    rfl
end T3
namespace T3
open PySem PySem.Spec PyProof.Rows L2
variable {t : List Nat} {n : Nat} {w : Str}
theorem mem_allA : ∀ {n : Nat} {a : List Nat}, Dg a → a.length = n → a ∈ allA n
  | 0, [], _, _ => by simp [allA]
  | n + 1, a, h, hl => by
    have hne : a ≠ [] := fun z => by rw [z] at hl; cases hl
    have e := List.dropLast_concat_getLast hne
    have hd : Dg a.dropLast := fun x hx => h x ((List.dropLast_sublist a).subset hx)
    have hlast := h _ (List.getLast_mem hne)
    have ih := mem_allA (n := n) hd (by rw [List.length_dropLast, hl]; rfl)
    simp only [allA, List.mem_flatMap]
    refine ⟨a.dropLast, ih, ?_⟩
    rw [← e]
    generalize a.getLast hne = z at hlast ⊢
    simp
    omega
noncomputable def rowsN (l : List (List Nat)) : Nat → List (List (List Nat))
  | 0 => [[]]
  | n + 1 => l.flatMap fun x => (rowsN l n).map (x :: ·)
theorem rowsL_map (l : List (List Nat)) : ∀ n, rowsL (l.map tupN) n = (rowsN l n).map fun r => r.map tupN
  | 0 => rfl
  | n + 1 => by
    simp only [rowsL, rowsN, rowsL_map l n, List.flatMap_map, List.map_flatMap, List.map_map]
    rfl
theorem rowsN_ok {l : List (List Nat)} : ∀ {n : Nat}, ∀ r ∈ rowsN l n, r.length = n ∧ ∀ x ∈ r, x ∈ l
  | 0, r, h => by
    have : r = [] := by simpa [rowsN] using h
    subst this
    exact ⟨rfl, fun _ h => by cases h⟩
  | n + 1, r, h => by
    simp only [rowsN, List.mem_flatMap, List.mem_map] at h
    obtain ⟨x, hx, q, hq, rfl⟩ := h
    obtain ⟨h1, h2⟩ := rowsN_ok q hq
    refine ⟨by rw [List.length_cons, h1], fun y hy => ?_⟩
    rcases List.mem_cons.mp hy with rfl | hy
    · exact hx
    · exact h2 y hy
theorem mem_rowsN {l : List (List Nat)} : ∀ {n : Nat} {r : List (List Nat)}, r.length = n → (∀ x ∈ r, x ∈ l) → r ∈ rowsN l n
  | 0, [], _, _ => by simp [rowsN]
  | n + 1, x :: r, h, hx => by
    simp only [rowsN, List.mem_flatMap, List.mem_map]
    exact ⟨x, hx x List.mem_cons_self, r, mem_rowsN (by simpa using h) fun y hy => hx y (List.mem_cons_of_mem _ hy), rfl⟩
theorem rws_of (hw : w ∈ Wds) {r : List (List Nat)} (h : r ∈ rowsN (relN w) n) : Rws r n (lenW w) :=
  ⟨fun x hx => rel_ok w hw x ((rowsN_ok r h).2 x hx), (rowsN_ok r h).1⟩
/-- the first row that leads out -/
noncomputable def bad (t : List Nat) (w : Str) (r : List (List Nat)) : Bool := !(relN w).contains (mk t r (lenW w))
noncomputable def outN (t : List Nat) (n : Nat) (w : Str) : Option (List (List Nat)) := (rowsN (relN w) n).find? (bad t w)
noncomputable def keepsB (t : List Nat) (n : Nat) (w : Str) : Bool := (outN t n w).isNone
noncomputable def rowsD (r : List (List Nat)) : D := .tup (r.map tupN)
noncomputable def outD (t : List Nat) (n : Nat) (w : Str) : D := match outN t n w with
  | none => .non
  | some r => rowsD r
theorem forL_find {body : D → CS} {α : Type} {h : α → D} {p : α → Bool} {g : α → A} {S : Store} (P : Slots → Prop) : ∀ {l : List α} {ρ : Slots}, P ρ → (∀ x ∈ l, ∀ ρ, P ρ → (p x = true → body (h x) ρ S = .rt (g x) S) ∧ (p x = false → ∃ ρ', body (h x) ρ S = .nx ρ' S ∧ P ρ')) →
    (∃ x, l.find? p = some x ∧ forL body (l.map h) ρ S = .rt (g x) S) ∨ (l.find? p = none ∧ ∃ ρ', forL body (l.map h) ρ S = .nx ρ' S ∧ P ρ')
  | [], ρ, h0, _ => .inr ⟨rfl, ρ, rfl, h0⟩
  | x :: r, ρ, h0, hs => by
    obtain ⟨h1, h2⟩ := hs x List.mem_cons_self ρ h0
    rw [List.map_cons]
    by_cases hp : p x = true
    · refine .inl ⟨x, by rw [List.find?_cons, hp], ?_⟩
      simp only [forL, h1 hp]
    · have hp : p x = false := by simpa using hp
      obtain ⟨ρ', e, q⟩ := h2 hp
      rcases forL_find P (l := r) q fun y hy => hs y (List.mem_cons_of_mem _ hy) with ⟨y, a, b⟩ | ⟨a, ρ2, b, c⟩
      · exact .inl ⟨y, by rw [List.find?_cons, hp]; exact a, by simp only [forL, e]; exact b⟩
      · exact .inr ⟨by rw [List.find?_cons, hp]; exact a, ρ2, by simp only [forL, e]; exact b, c⟩
theorem k_is_in (hw : w ∈ Wds) {a : List Nat} (h : Dg a) (hl : a.length = lenW w) (S : Store) : callIn false m_is_in [.val (wD w), .val (tupN a)] S = .ok (.val (.bl ((relN w).contains a))) S :=
  call_val (ds := [wD w, tupN a]) rfl (c_is_in w hw a (mem_allA h hl))
theorem k_relation_of (hw : w ∈ Wds) (S : Store) : callIn false m_relation_of [.val (wD w)] S = .ok (.val (.lst ((relN w).map tupN))) S := call_val (ds := [wD w]) rfl (c_relation_of w hw)
theorem k_made_by (ht : Tb t n) {r : List (List Nat)} {len : Nat} (h : Rws r n len) (hl : len ≤ 1000) (S : Store) : callIn false m_made_by [.val (.str (tx t)), .val (rowsD r)] S = .ok (.val (tupN (mk t r len))) S :=
  call_vb (ds := [.str (tx t), rowsD r]) (S1 := []) rfl (c_made_by ht h hl []) false
theorem c_out_of (ht : Tb t n) (hw : w ∈ Wds) (S : Store) : m_out_of [.val (.str (tx t)), .val (wD w)] S = .ok (.val (outD t n w)) S := by
  have hn := ht.n1
  have hn3 := ht.n3
  have h4 := (rel_ne w hw).2.2
  unfold m_out_of b_out_of runF
  have hg : gfRows 3 [.lst ((relN w).map tupN), nD n] = some ((rowsN (relN w) n).map rowsD) := by
    unfold gfRows nD
    simp only
    rw [if_pos ⟨by omega, by omega, by omega⟩, Int.toNat_natCast, rowsL_map, List.map_map]
    rfl
  simp [k_relation_of hw, k_places_of false ht, hg]
  generalize hq : forL _ _ _ _ = q
  rcases forL_find (g := fun r => .val (rowsD r)) (p := bad t w) (h := rowsD) (l := rowsN (relN w) n) (body := lb (tgName 3) (sIf (cNot (cTru (cCall 2 false m_is_in (cCons (cV 1) (cCons (cCall 2 false m_made_by (cCons (cV 0) (cCons (cV 3) cNil))) cNil))))) (sRet (cV 3)) sNil))
    (S := S) (fun ρ => ∃ z, ρ = [some (.val (.str (tx t))), some (.val (wD w)), some (.val (.lst ((relN w).map tupN))), z]) ⟨none, rfl⟩ (by
    rintro r hr ρ ⟨z, rfl⟩
    have rw' := rws_of hw hr
    have e1 := fun S => k_made_by ht rw' (by omega) S
    have e2 := fun S => k_is_in hw (mk_dg ht (rows := r) (len := lenW w)) (by simp [mk]) S
    constructor
    · intro hb
      have hb : (relN w).contains (mk t r (lenW w)) = false := by simpa [bad] using hb
      simp only [hb] at e2
      simp [e1, e2]
    · intro hb
      have hb : (relN w).contains (mk t r (lenW w)) = true := by simpa [bad] using hb
      simp only [hb] at e2
      simp [e1, e2]) with ⟨r, a, b⟩ | ⟨a, ρ', b, z, rfl⟩
  · rw [b] at hq
    subst hq
    simp [outD, outN, a]
  · rw [b] at hq
    subst hq
    simp [outD, outN, a]
theorem k_out_of (b : Bool) (ht : Tb t n) (hw : w ∈ Wds) (S : Store) : callIn b m_out_of [.val (.str (tx t)), .val (wD w)] S = .ok (.val (outD t n w)) S := call_vb (ds := [.str (tx t), wD w]) (S1 := []) rfl (c_out_of ht hw []) b
theorem c_is_kept (ht : Tb t n) (hw : w ∈ Wds) (S : Store) : m_is_kept [.val (.str (tx t)), .val (wD w)] S = .ok (.val (.bl (keepsB t n w))) S := by
  unfold m_is_kept b_is_kept runF
  simp [k_out_of false ht hw]
  unfold outD keepsB
  cases outN t n w <;> rfl
theorem k_is_kept (b : Bool) (ht : Tb t n) (hw : w ∈ Wds) (S : Store) : callIn b m_is_kept [.val (.str (tx t)), .val (wD w)] S = .ok (.val (.bl (keepsB t n w))) S := call_vb (ds := [.str (tx t), wD w]) (S1 := []) rfl (c_is_kept ht hw []) b
theorem k_check_word (hw : w ∈ Wds) (S : Store) : callIn false m_check_word [.val (wD w)] S = .ok (.val .non) S := by
  have h : ∀ w ∈ Wds, blOf (gives (m_is_word [.val (wD w)] [])) = some true := by decide +kernel
  have e := fun S => call_val (f := m_is_word) (xs := [.val (wD w)]) (ds := [wD w]) (S := S) rfl (blOf_some (h w hw))
  refine call_val (ds := [wD w]) rfl ?_
  unfold m_check_word b_check_word runF
  simp [e, gives]
theorem c_keeps (ht : Tb t n) (hw : w ∈ Wds) (S : Store) : m_keeps [.val (.str (tx t)), .val (wD w)] S = .ok (.val (.bl (keepsB t n w))) S := by
  unfold m_keeps b_keeps runF
  simp [k_check ht, k_check_word hw, k_is_kept true ht hw]
theorem c_leads_out (ht : Tb t n) (hw : w ∈ Wds) (S : Store) : m_leads_out [.val (.str (tx t)), .val (wD w)] S = .ok (.val (outD t n w)) S := by
  unfold m_leads_out b_leads_out runF
  simp [k_check ht, k_check_word hw, k_out_of true ht hw]
noncomputable def wordsN (t : List Nat) (n : Nat) : List Str := Wds.filter fun w => keepsB t n w
theorem g_words : g_WORDS = .tup (Wds.map wD) := rfl
theorem c_words_of (ht : Tb t n) (S : Store) : m_words_of [.val (.str (tx t))] S = .ok (.val (.tup ((wordsN t n).map wD))) S := by
  unfold m_words_of b_words_of runF
  have key : ∀ S, lcGo (elm (tgName 1) (cTru (cCall 2 false m_is_kept (cCons (cV 0) (cCons (cV 1) cNil)))) (cV 1) [some (.val (.str (tx t))), none]) (Wds.map wD) S = some ((wordsN t n).map wD, S) := fun S =>
    lcGo_if (p := fun w => keepsB t n w) fun w hw => by
      have e := fun S => k_is_kept false ht hw S
      cases hb : keepsB t n w <;> simp [e, hb]
  have hl : (wordsN t n).length ≤ 16000000 := by
    have := List.length_filter_le (fun w => keepsB t n w) Wds
    have e : Wds.length = 18 := rfl
    unfold wordsN
    omega
  simp [g_words, key, hl]
theorem k_words_of (b : Bool) (ht : Tb t n) (S : Store) : callIn b m_words_of [.val (.str (tx t))] S = .ok (.val (.tup ((wordsN t n).map wD))) S := call_vb (ds := [.str (tx t)]) (S1 := []) rfl (c_words_of ht []) b
theorem c_kept_by (ht : Tb t n) (S : Store) : m_kept_by [.val (.str (tx t))] S = .ok (.val (.tup ((wordsN t n).map wD))) S := by
  unfold m_kept_by b_kept_by runF
  simp [k_check ht, k_words_of true ht]
end T3
namespace T3
open PySem PySem.Spec PyProof.Rows L2
variable {t : List Nat} {n : Nat} {w : Str}
theorem tb_of {t : List Nat} (n : Nat) (h : (t.all (fun x => decide (x < 3)) && decide (t.length = 3 ^ n) && decide (1 ≤ n) && decide (n ≤ 3)) = true) : Tb t n := by
  simp only [Bool.and_eq_true, decide_eq_true_eq, List.all_eq_true] at h
  exact ⟨fun x hx => h.1.1.1 x hx, h.1.1.2, h.1.2, h.2⟩
noncomputable def txD (a : List Nat) : D := .str (tx a)
theorem tb1 {a : List Nat} (h : a ∈ allA 3) : Tb a 1 := ⟨(allA_ok 3 a h).1, (allA_ok 3 a h).2, by decide, by decide⟩
theorem k_all_tables (S : Store) : callIn false m_all_tables [] S = .ok (.val (.tup ((allA 3).map txD))) S := call_val (ds := []) rfl (by rfl)
/-! ### keepers -/
noncomputable def keepN (w : Str) : List (List Nat) := (allA 3).filter fun a => keepsB a 1 w
theorem c_keepers_of (hw : w ∈ Wds) : gives (m_keepers_of [.val (wD w)] []) = some (.lst ((keepN w).map txD)) := by
  unfold m_keepers_of b_keepers_of runF
  have key : ∀ S, lcGo (elm (tgName 1) (cTru (cCall 2 false m_is_kept (cCons (cV 1) (cCons (cV 0) cNil)))) (cV 1) [some (.val (wD w)), none]) ((allA 3).map txD) S = some ((keepN w).map txD, S) := fun S =>
    lcGo_if (p := fun a => keepsB a 1 w) fun a ha => by
      have e := fun S => k_is_kept false (tb1 ha) hw S
      cases hb : keepsB a 1 w <;> simp [txD, e, hb]
  have hl : (keepN w).length ≤ 16000000 := by
    have := List.length_filter_le (fun a => keepsB a 1 w) (allA 3)
    have e : (allA 3).length = 27 := by decide
    unfold keepN
    omega
  simp [k_all_tables, key, hl, gives, mkL, frzO]
theorem c_keepers (hw : w ∈ Wds) (S : Store) : m_keepers [.val (wD w)] S = .ok (.val (.tup ((keepN w).map txD))) S := by
  unfold m_keepers b_keepers runF
  have e := fun S => call_val (f := m_keepers_of) (xs := [.val (wD w)]) (ds := [wD w]) (S := S) rfl (c_keepers_of hw)
  simp [k_check_word hw, e]
theorem k_keepers (b : Bool) (hw : w ∈ Wds) (S : Store) : callIn b m_keepers [.val (wD w)] S = .ok (.val (.tup ((keepN w).map txD))) S := call_vb (ds := [wD w]) (S1 := []) rfl (c_keepers hw []) b
theorem k_keeps (b : Bool) (ht : Tb t n) (hw : w ∈ Wds) (S : Store) : callIn b m_keeps [.val (.str (tx t)), .val (wD w)] S = .ok (.val (.bl (keepsB t n w))) S := call_vb (ds := [.str (tx t), wD w]) (S1 := []) rfl (c_keeps ht hw []) b
/-! ### the least breaker -/
noncomputable def lb1 (w : Str) : Option (List Nat) := (allA 3).find? fun a => !keepsB a 1 w
noncomputable def lbN (w : Str) : List Nat := match lb1 w with
  | some a => a
  | none => [0, 0, 0, 0, 0, 0, 0, 1, 2]
theorem lb_mixed : ∀ w ∈ Wds, lb1 w = none → w = "mixed" := by decide +kernel
theorem wh_step {c : CE} {b : CS} {n : Nat} {ρ ρ' : Slots} {S S1 S' : Store} (h1 : c ρ S = .ok (.val (.bl true)) S1) (h2 : b ρ S1 = .nx ρ' S') : whileN c b (n + 1) ρ S = whileN c b n ρ' S' := by
  simp only [whileN, h1, h2, Res.bindS]
theorem wh_end {c : CE} {b : CS} {n : Nat} {ρ : Slots} {S S1 : Store} (h1 : c ρ S = .ok (.val (.bl false)) S1) : whileN c b (n + 1) ρ S = .nx ρ S1 := by
  simp only [whileN, h1, Res.bindS]
noncomputable def dgt (k : Nat) : List Nat := [0, 0, 0, 0, 0, 0, 0, k / 3, k % 3]
noncomputable def strOf : Option D → Option Str
  | some (.str s) => some s
  | _ => none
theorem strOf_some {x : Option D} {s : Str} (h : strOf x = some s) : x = some (.str s) := by
  cases x with
  | none => cases h
  | some d => cases d <;> simp [strOf] at h; rw [h]
theorem k_number {k : Nat} (hk : k < 6) (b : Bool) (S : Store) : callIn b m_table_of_number [.val (nD k)] S = .ok (.val (txD (dgt k))) S := by
  have h : ∀ k < 6, strOf (match m_table_of_number [.val (nD k)] [] with | .ok (.val d) _ => some d | _ => none) = some (tx (dgt k)) := by decide +kernel
  have e := strOf_some (h k hk)
  split at e
  · rename_i d S1 e2
    cases e
    exact call_vb (ds := [nD k]) rfl e2 b
  · cases e
theorem c_least_breaker (hw : w ∈ Wds) (S : Store) : ∃ S', m_least_breaker [.val (wD w)] S = .ok (.val (txD (lbN w))) S' := by
  unfold m_least_breaker b_least_breaker runF
  simp [k_check_word hw, k_all_tables]
  generalize hq : forL _ _ _ _ = q
  rcases forL_find (g := fun a => .val (txD a)) (p := fun a => !keepsB a 1 w) (h := txD) (l := allA 3) (body := lb (tgName 1) (sIf (cNot (cTru (cCall 2 false m_is_kept (cCons (cV 1) (cCons (cV 0) cNil))))) (sRet (cV 1)) sNil))
    (S := S) (fun ρ => ∃ z, ρ = [some (.val (wD w)), z, none]) ⟨none, rfl⟩ (by
    rintro a ha ρ ⟨z, rfl⟩
    have e := fun S => k_is_kept false (tb1 ha) hw S
    constructor
    · intro hb
      have hb : keepsB a 1 w = false := by simpa using hb
      simp only [hb] at e
      simp [txD, e]
    · intro hb
      have hb : keepsB a 1 w = true := by simpa using hb
      simp only [hb] at e
      simp [txD, e]) with ⟨a, ha, e⟩ | ⟨ha, ρ', e, z, rfl⟩
  · rw [e] at hq
    subst hq
    have : lbN w = a := by simp [lbN, lb1, ha]
    simp [this]
  · rw [e] at hq
    subst hq
    have hm := lb_mixed w hw ha
    have hl : lbN w = [0, 0, 0, 0, 0, 0, 0, 1, 2] := by
      unfold lbN
      rw [show lb1 w = none from ha]
    have kb : ∀ k < 6, keepsB (dgt k) 2 "mixed" = decide (k < 5) := by decide +kernel
    have tb : ∀ k < 6, Tb (dgt k) 2 := fun k hk => tb_of 2 (by revert k; decide)
    have ck : ∀ k < 6, ∀ S, cTru (cCall 2 false m_is_kept (cCons (cCall 1 false m_table_of_number (cCons (cV 2) cNil)) (cCons (cV 0) cNil))) [some (.val (wD w)), z, some (.val (nD k))] S = .ok (.val (.bl (decide (k < 5)))) S := fun k hk S => by
      have e1 := fun S => k_number hk false S
      have e2 := fun S => k_is_kept false (tb k hk) hw S
      rw [hm] at e2 ⊢
      simp only [kb k hk] at e2
      simp [e1, txD, e2]
    have st : ∀ k < 6, ∀ S, sAugI 2 (cI 1) [some (.val (wD w)), z, some (.val (nD k))] S = .nx [some (.val (wD w)), z, some (.val (nD (k + 1)))] S := fun k _ S => rfl
    have w6 : ∀ S, whileN (cTru (cCall 2 false m_is_kept (cCons (cCall 1 false m_table_of_number (cCons (cV 2) cNil)) (cCons (cV 0) cNil)))) (sAugI 2 (cI 1)) 200 [some (.val (wD w)), z, some (.val (.int 0))] S = .nx [some (.val (wD w)), z, some (.val (nD 5))] S := fun S => by
      show whileN _ _ (195 + 1 + 1 + 1 + 1 + 1) [some (.val (wD w)), z, some (.val (nD 0))] S = _
      rw [wh_step (ck 0 (by decide) S) (st 0 (by decide) S), wh_step (ck 1 (by decide) S) (st 1 (by decide) S), wh_step (ck 2 (by decide) S) (st 2 (by decide) S), wh_step (ck 3 (by decide) S) (st 3 (by decide) S), wh_step (ck 4 (by decide) S) (st 4 (by decide) S)]
      exact wh_end (n := 194) (ck 5 (by decide) S)
    have e5 := fun S => k_number (k := 5) (by decide) true S
    simp [w6, e5, hl]
    rfl
theorem k_least_breaker (b : Bool) (hw : w ∈ Wds) (S : Store) : callIn b m_least_breaker [.val (wD w)] S = .ok (.val (txD (lbN w))) S := by
  obtain ⟨S', e⟩ := c_least_breaker hw []
  exact call_vb (ds := [wD w]) rfl e b
end T3
namespace T3
open PySem PySem.Spec PyProof.Rows L2
variable {t : List Nat} {n : Nat} {w : Str}
theorem lc_runs {f : Fn} (hf : ∀ (S : Store) (i : Nat) (p q r : Int), S[i]? = some (spr p q r) → ∃ p' q' r', callIn false f [.ref i] S = .ok (.val (.bl true)) (S.set i (spr p' q' r')))
    (ns : List Int) (hl : ns.length ≤ 63) (m : Nat) (hm : m ≤ 1000) (v : Nat) (hv : v ≠ 0) (ρ : Slots) (h0 : ρ[0]? = some (some (.val (.ro (ns.map D.int))))) (hvl : v < ρ.length) (S : Store) :
    ∃ S', lcGo (elm (tgName v) cYes (cCall 1 false f (cCons (cCall 2 true m__law_spring (cCons (cV 0) (cCons (cV v) cNil))) cNil)) ρ) (rangeD 0 m) S = some ((List.range m).map (fun _ => D.bl true), S') := by
  obtain ⟨ys, S', e, hy⟩ := lcGo_inv (f := elm (tgName v) cYes (cCall 1 false f (cCons (cCall 2 true m__law_spring (cCons (cV 0) (cCons (cV v) cNil))) cNil)) ρ) (ds := rangeD 0 m) (S := S)
    (fun i acc S => acc = (List.range i).map fun _ => D.bl true) rfl (by
    rintro i d acc S hd rfl
    rw [range_nD] at hd
    obtain ⟨x, hx, rfl⟩ := map_get hd
    obtain ⟨hi, hx2⟩ := List.getElem?_eq_some_iff.mp hx
    rw [List.getElem_range] at hx2
    subst hx2
    rw [List.length_range] at hi
    obtain ⟨p, q, es⟩ := k_spring ns hl i (by omega) S
    obtain ⟨p', q', r', er⟩ := hf (S ++ [spr p q 0]) S.length p q 0 (by simp)
    have es' : callIn true m__law_spring [.val (.ro (ns.map D.int)), .val (.int (i : Nat))] S = .ok (.ref S.length) (S ++ [spr p q 0]) := es
    refine ⟨.bl true, (S ++ [spr p q 0]).set S.length (spr p' q' r'), ?_, by rw [List.range_succ, List.map_append]; rfl⟩
    simp [List.getElem?_set, h0, hv, hvl, nD, es', er])
  refine ⟨S', ?_⟩
  rw [e, hy, range_nD, List.length_map, List.length_range]
theorem runs_n (ns : List Int) (k : Nat) (hk : k ≤ 63) : ∃ m : Nat, m ≤ 63 ∧ (if 2 < (if (k : Int) < (ns.length : Int) then (k : Int) else (ns.length : Int)) then (if (k : Int) < (ns.length : Int) then (k : Int) else (ns.length : Int)) else 2) = (m : Int) := by
  refine ⟨max 2 (min k ns.length), by omega, ?_⟩
  split <;> split <;> omega
theorem inD_wD (w : Str) : ∀ l : List Str, inD (wD w) (l.map wD) = l.contains w
  | [] => rfl
  | x :: r => by
    have ih := inD_wD w r
    unfold inD at ih ⊢
    rw [List.map_cons, List.any_cons, ih, List.contains_cons]
    have e : dEq (wD x) (wD w) = (x == w) := rfl
    rw [e]
    by_cases h : x = w
    · simp [h]
    · have h' : (w == x) = false := by simpa using fun z : w = x => h z.symm
      have h2 : (x == w) = false := by simpa using h
      simp [h2, h']
theorem flat_wD (l : List Str) : (l.map wD).all flatD = true := by
  rw [List.all_eq_true]
  intro d hd
  obtain ⟨x, _, rfl⟩ := List.mem_map.mp hd
  rfl
theorem okL_tupN : ∀ l : List (List Nat), dOkL (l.map tupN) = true ∧ dDepL (l.map tupN) ≤ 50
  | [] => ⟨rfl, by decide⟩
  | x :: r => by
    obtain ⟨h1, h2⟩ := okL_tupN r
    constructor
    · show (dOkL (x.map nD) && dOkL (r.map tupN)) = true
      rw [h1, okL_nD]
      rfl
    · show max (dDepL (x.map nD) + 1) (dDepL (r.map tupN)) ≤ 50
      rw [depL_nD]
      omega
theorem k_all_words (S : Store) : callIn false m__law_all_words [] S = .ok (.val (.lst (Wds.map wD))) S := call_val (ds := []) rfl (by rfl)
namespace SE
theorem tx_snoc (l : List Nat) (x : Nat) : tx l ++ sg x = tx (l ++ [x]) := by
  have h : ∀ a b : Str, (a ++ b).cps = a.cps ++ b.cps := fun _ _ => rfl
  cases e : tx l ++ sg x with
  | mk c =>
    have := h (tx l) (sg x)
    rw [e] at this
    have h2 : c = (tx l).cps ++ (sg x).cps := this
    unfold tx
    congr 1
    rw [h2]
    simp [tx, sg]

end SE
end T3
namespace T3
open PySem PySem.Spec PyProof.Rows L2
noncomputable def b__law_first : CS := sRet (cBin fIx (cBin (fAdd true) (cLcV true [1] (cV 0) (tgName 1) (cBin fNe (cV 1) (cLst true (cNil))) (cV 1)) (cLst true (cCons (cLst true (cNil)) (cNil)))) (cI 0))
noncomputable def m__law_first : Fn := runF 2 b__law_first
noncomputable def b__law_is_whole : CS := sRet (cAnd (cIsi "int" (cV 0)) (cAnd (cNot (cIsi "bool" (cV 0))) (cChain fLe fLe (cV 1) (cV 0) (cV 2))))
noncomputable def m__law_is_whole : Fn := runF 3 b__law_is_whole
noncomputable def b__law_odd : CS := sSeq (sAsg (tgName 1) (cLst true (cCons (cN) (cCons (cB true) (cCons (cB false) (cCons (cI 0) (cCons (cI 1) (cCons (cUn fNeg (cI 1)) (cCons (cI 7) (cCons (cBin fPow (cI 10) (cI 39)) (cCons (cS "") (cCons (cS "a") (cCons (cS "012") (cCons (cS "0123") (cCons (cS "013") (cCons (cS "set 0") (cCons (cS "set") (cCons (cS "turn") (cCons (cS "up 120") (cNil)))))))))))))))))))) (sSeq (sAsg (tgName 1) (cBin (fAdd true) (cV 1) (cLst true (cCons (cS "up") (cCons (cTup (cNil)) (cCons (cTup (cCons (cI 0) (cNil))) (cCons (cTup (cCons (cI 0) (cCons (cI 1) (cNil)))) (cCons (cTup (cCons (cI 1) (cCons (cI 0) (cNil)))) (cCons (cTup (cCons (cI 0) (cCons (cI 0) (cNil)))) (cCons (cTup (cCons (cB true) (cCons (cI 0) (cNil)))) (cCons (cTup (cCons (cI 0) (cCons (cI 1) (cCons (cI 2) (cNil))))) (cCons (cTup (cCons (cI 2) (cCons (cI 1) (cCons (cI 0) (cNil))))) (cCons (cTup (cCons (cS "012") (cNil))) (cCons (cTup (cCons (cS "up") (cNil))) (cNil))))))))))))))) (sSeq (sAsg (tgName 1) (cBin (fAdd true) (cV 1) (cLst true (cCons (cLst true (cNil)) (cCons (cLst true (cCons (cI 0) (cNil))) (cCons (cLst true (cCons (cS "x") (cNil))) (cCons (cDic0) (cCons (cDicC [("a", 0)]) (cCons (cTup (cCons (cLst true (cNil)) (cNil))) (cCons (cTup (cCons (cN) (cNil))) (cCons (cTup (cCons (cTup (cNil)) (cNil))) (cCons (cTup (cCons (cS "all") (cNil))) (cCons (cTup (cCons (cS "keeps") (cCons (cS "turn") (cNil)))) (cCons (cTup (cCons (cS "makes") (cCons (cS "111") (cNil)))) (cNil))))))))))))))) (sRet (cCall 2 true m__law_of (cCons (cV 0) (cCons (cBin (fAdd true) (cV 1) (cLst true (cCons (cTup (cCons (cS "alike") (cCons (cS "a") (cCons (cS "b") (cNil))))) (cCons (cTup (cCons (cS "a") (cCons (cTup (cCons (cS "all") (cNil))) (cNil)))) (cCons (cTup (cCons (cB true) (cNil))) (cNil)))))) (cNil)))))))
noncomputable def m__law_odd : Fn := runF 2 b__law_odd
noncomputable def b__law_error (i : Nat) : CS := sSeq (sAsg (tgName 1) (cLst true (cCons (cIsX (cV 0) (xIs i 0)) (cCons (cIsX (cV 0) (xIs i 1)) (cCons (cIsX (cV 0) (xIs i 2)) (cNil)))))) (sSeq (sAsg (tgName 1) (cBin (fAdd true) (cV 1) (cLst true (cCons (cIsX (cV 0) (xIs i 3)) (cCons (cIsX (cV 0) (xIs i 4)) (cNil)))))) (sSeq (sAsg (tgName 1) (cBin (fAdd true) (cV 1) (cLst true (cCons (cIsX (cV 0) (xIs i 5)) (cCons (cIsX (cV 0) (xIs i 6)) (cCons (cIsX (cV 0) (xIs i 7)) (cNil))))))) (sSeq (sAsg (tgName 1) (cBin (fAdd true) (cV 1) (cLst true (cCons (cIsX (cV 0) (xIs i 8)) (cCons (cIsX (cV 0) (xIs i 9)) (cCons (cIsX (cV 0) (xIs i 10)) (cNil))))))) (sSeq (sAsg (tgName 1) (cBin (fAdd true) (cV 1) (cLst true (cCons (cIsX (cV 0) (xIs i 11)) (cCons (cIsX (cV 0) (xIs i 12)) (cCons (cIsX (cV 0) (xIs i 13)) (cNil))))))) (sSeq (sAsg (tgName 1) (cBin (fAdd true) (cV 1) (cLst true (cCons (cIsX (cV 0) (xIs i 14)) (cCons (cIsX (cV 0) (xIs i 15)) (cNil)))))) (sSeq (sAsg (tgName 1) (cBin (fAdd true) (cV 1) (cLst true (cCons (cIsX (cV 0) (xIs i 16)) (cCons (cIsX (cV 0) (xIs i 17)) (cCons (cIsX (cV 0) (xIs i 18)) (cNil))))))) (sSeq (sAsg (tgName 1) (cBin (fAdd true) (cV 1) (cLst true (cCons (cIsX (cV 0) (xIs i 19)) (cCons (cIsX (cV 0) (xIs i 20)) (cCons (cIsX (cV 0) (xIs i 21)) (cNil))))))) (sSeq (sAsg (tgName 2) (cLst true (cCons (cS "InvalidText") (cCons (cS "InvalidNumber") (cCons (cS "InvalidTable") (cCons (cS "InvalidWord") (cCons (cS "InvalidArguments") (cCons (cS "InvalidTables") (cNil))))))))) (sSeq (sAsg (tgName 2) (cBin (fAdd true) (cV 2) (cLst true (cCons (cS "InvalidOrder") (cCons (cS "InvalidLot") (cCons (cS "InvalidSheet") (cCons (cS "InvalidName") (cCons (cS "InvalidWish") (cCons (cS "NotABox") (cNil)))))))))) (sSeq (sAsg (tgName 2) (cBin (fAdd true) (cV 2) (cLst true (cCons (cS "InvalidRows") (cCons (cS "InvalidSteps") (cCons (cS "InvalidTold") (cCons (cS "InvalidExchanges") (cCons (cS "InvalidWishes") (cNil))))))))) (sSeq (sAsg (tgName 2) (cBin (fAdd true) (cV 2) (cLst true (cCons (cS "UnknownName") (cCons (cS "InUse") (cCons (cS "TooMany") (cCons (cS "Broken") (cCons (cS "NothingToUndo") (cNil))))))))) (sSeq (sAsg (tgName 3) (cLst true (cCons (cIsX (cV 0) (xIs i 22)) (cCons (cIsX (cV 0) (xIs i 23)) (cCons (cIsX (cV 0) (xIs i 24)) (cNil)))))) (sSeq (sAsg (tgName 4) (cLst true (cCons (cIsX (cV 0) (xIs i 22)) (cCons (cIsX (cV 0) (xIs i 23)) (cCons (cIsX (cV 0) (xIs i 24)) (cNil)))))) (sSeq (sIf (cOr (cBin fNe (cMt tyL fLCnt (cV 1) (cCons (cB true) cNil)) (cI 1)) (cBin fNe (cV 3) (cV 4))) (sRet (cS "")) (sNil)) (sSeq (sAsg (tgName 5) (cMt tyL fIndex (cV 1) (cCons (cB true) cNil))) (sRet (cIf (cBin fEq (cV 3) (cLst true (cCons (cBin fLt (cV 5) (cI 17)) (cCons (cChain fLt fLt (cI 16) (cV 5) (cI 19)) (cCons (cBin fGt (cV 5) (cI 18)) (cNil)))))) (cBin fIx (cV 2) (cV 5)) (cS ""))))))))))))))))))
noncomputable def m__law_error (i : Nat) : Fn := runF 6 (b__law_error i)
noncomputable def b__law_field : CS := sSeq (sIf (cBin fIn (cV 1) (cLst true (cCons (cS "InvalidRows") (cCons (cS "InvalidSteps") (cCons (cS "InvalidTold") (cCons (cS "InvalidExchanges") (cCons (cS "InvalidWishes") (cCons (cS "InUse") (cNil))))))))) (sRet (cFldX "index" (cV 0))) (sNil)) (sSeq (sIf (cBin fEq (cV 1) (cS "Broken")) (sRet (cLst false (cCons (cFldX "index" (cV 0)) (cCons (cFldX "shown" (cV 0)) (cNil))))) (sNil)) (sRet (cIf (cBin fIn (cV 1) (cLst true (cCons (cS "NothingToUndo") (cCons (cS "") (cNil))))) (cN) (cFldX "given" (cV 0)))))
noncomputable def m__law_field : Fn := runF 2 b__law_field
noncomputable def t_law : ErrT := mkErr m__law_error m__law_field [2, 3, 4, 5, 6]
noncomputable def b__law_wrong : CS := sRet (cIf (cTru (cV 0)) (cLst false (cNil)) (cLst false (cCons (cS "error") (cCons (cV 1) (cCons (cB1 (fReprD) (cCons (cV 2) (cNil))) (cNil))))))
noncomputable def m__law_wrong : Fn := runF 3 b__law_wrong
noncomputable def tbl_1 (i : Nat) : Option Fn := if i = 2000 then some m_keepers else if i = 2001 then some m_least_breaker else if i = 2002 then some m_relation else none
noncomputable def tbl_2 (i : Nat) : Option Fn := if i = 2003 then some m_keeps else if i = 2004 then some m_leads_out else none
noncomputable def b__law_right : CS := sSeq (sFor (ciR1 (cI 5)) (tgName 1) (sSeq (sAsg (tgName 2) (cCall 2 false m__law_table (cCons (cV 0) (cCons (cBin (fAdd true) (cI 1) (cCall 2 false m__law_draw (cCons (cV 0) (cCons (cI 2) (cNil))))) (cNil))))) (sSeq (sAsg (tgName 3) (cCall 2 false m__law_of (cCons (cV 0) (cCons (cLst true (cCons (cV 2) (cCons (cV 2) (cCons (cV 2) (cCons (cBin (fAdd true) (cV 2) (cS "0")) (cCons (cSl true (cV 2) (some (cI 1)) none) (cCons (cBin (fAdd true) (cSl true (cV 2) none (some (cUn fNeg (cI 1)))) (cS "3")) (cCons (cB1 (fList2 true) (cCons (cV 2) (cNil))) (cCons (cCall 1 false m__law_odd (cCons (cV 0) (cNil))) (cNil)))))))))) (cNil))))) (sSeq (sAsg (tgName 4) (cLst true (cCons (cS "set") (cCons (cS "set 3") (cCons (cS "set 012") (cCons (cS "set 10") (cCons (cS "Set 0") (cCons (cS "turn ") (cCons (cS "chain") (cCons (cS "chain 3") (cCons (cS "centre 01") (cCons (cS "part 01") (cCons (cN) (cNil)))))))))))))) (sSeq (sAsg (tgName 5) (cCall 2 false m__law_of (cCons (cV 0) (cCons (cBin (fAdd true) (cBin (fAdd true) (cCall0 false m__law_all_words) (cV 4)) (cLst true (cCons (cCall 1 false m__law_odd (cCons (cV 0) (cNil))) (cCons (cTup (cCons (cS "turn") (cNil))) (cCons (cI 0) (cCons (cB true) (cNil))))))) (cNil))))) (sSeq (sAsg (tgName 6) (cCall 2 false m__law_of (cCons (cV 0) (cCons (cLst true (cCons (cTup (cCons (cI 0) (cCons (cI 1) (cCons (cI 2) (cNil))))) (cCons (cTup (cCons (cI 2) (cCons (cI 1) (cCons (cI 0) (cNil))))) (cCons (cTup (cCons (cI 0) (cCons (cI 1) (cNil)))) (cCons (cTup (cCons (cI 0) (cCons (cI 1) (cCons (cI 1) (cNil))))) (cCons (cLst true (cCons (cI 0) (cCons (cI 1) (cCons (cI 2) (cNil))))) (cCons (cTup (cCons (cI 0) (cCons (cI 1) (cCons (cB true) (cNil))))) (cCons (cN) (cNil))))))))) (cNil))))) (sSeq (sAsg (tgName 7) (cAnd (cIsi "str" (cV 3)) (cAnd (cBin fIn (cB1 (fLen) (cCons (cV 3) (cNil))) (cLst true (cCons (cI 3) (cCons (cI 9) (cCons (cI 27) (cNil)))))) (cB1 (fAll) (cCons (cLcV true [14] (cV 3) (tgName 14) (cYes) (cBin fIn (cV 14) (cS "012"))) (cNil)))))) (sSeq (sAsg (tgName 7) (cCall 3 false m__law_wrong (cCons (cV 7) (cCons (cS "InvalidTable") (cCons (cV 3) (cNil)))))) (sSeq (sAsg (tgName 8) (cCall 3 false m__law_wrong (cCons (cAnd (cIsi "str" (cV 5)) (cBin fIn (cV 5) (cCall0 false m__law_all_words))) (cCons (cS "InvalidWord") (cCons (cV 5) (cNil)))))) (sSeq (sAsg (tgName 9) (cAnd (cIsi "tuple" (cV 6)) (cB1 (fAll) (cCons (cLcV true [15] (cV 6) (tgName 15) (cYes) (cCall 3 false m__law_is_whole (cCons (cV 15) (cCons (cI 0) (cCons (cI 2) (cNil)))))) (cNil))))) (sSeq (sAsg (tgName 9) (cAnd (cV 9) (cBin fEq (cB1 (fSortD2) (cCons (cV 6) (cNil))) (cLst true (cCons (cI 0) (cCons (cI 1) (cCons (cI 2) (cNil)))))))) (sSeq (sAsg (tgName 9) (cCall 3 false m__law_wrong (cCons (cV 9) (cCons (cS "InvalidOrder") (cCons (cV 6) (cNil)))))) (sSeq (sAsg (tgName 10) (cLc false [13] (ciV (cLst true (cCons (cK (defD 2000)) (cCons (cK (defD 2001)) (cCons (cK (defD 2002)) (cNil)))))) (tgName 13) (cYes) (cTold t_law (cCallV tbl_1 1 false (cV 13) (cCons (cV 5) (cNil)))))) (sSeq (sAsg (tgName 10) (cBin (fAdd false) (cV 10) (cLc true [13] (ciV (cLst true (cCons (cK (defD 2003)) (cCons (cK (defD 2004)) (cNil))))) (tgName 13) (cYes) (cTold t_law (cCallV tbl_2 2 false (cV 13) (cCons (cV 3) (cCons (cV 5) (cNil)))))))) (sSeq (sExp (cMt tyL fAppend (cV 10) (cCons (cTold t_law (cCall 1 false m_kept_by (cCons (cV 3) (cNil)))) cNil))) (sSeq (sExp (cMt tyL fAppend (cV 10) (cCons (cTold t_law (cCall 2 false m_renamed_word (cCons (cV 5) (cCons (cV 6) (cNil))))) cNil))) (sSeq (sAsg (tgName 11) (cBin (fAdd true) (cBin (fAdd true) (cBin (fMul true) (cLst true (cCons (cV 8) (cNil))) (cI 3)) (cBin (fMul true) (cLst true (cCons (cCall 1 false m__law_first (cCons (cLst true (cCons (cV 7) (cCons (cV 8) (cNil)))) (cNil))) (cNil))) (cI 2))) (cLst true (cCons (cV 7) (cCons (cCall 1 false m__law_first (cCons (cLst true (cCons (cV 8) (cCons (cV 9) (cNil)))) (cNil))) (cNil)))))) (sFor (ciR1 (cI 7)) (tgName 12) (sIf (cAnd (cBin fNe (cBin fIx (cV 10) (cV 12)) (cBin fIx (cV 11) (cV 12))) (cOr (cBin fNe (cBin fIx (cV 11) (cV 12)) (cLst true (cNil))) (cBin fNe (cBin fIx (cBin fIx (cV 10) (cV 12)) (cI 0)) (cS "told")))) (sRet (cB false)) (sNil)))))))))))))))))))) (sRet (cB true))
noncomputable def m__law_right : Fn := runF 16 b__law_right
noncomputable def b_law : CS := sRet (cB1 (fAll) (cCons (cLc true [1] (ciR1 (cB1 (fMax2) (cCons (cI 2) (cCons (cB1 (fMin2) (cCons (cB1 (fLen) (cCons (cV 0) (cNil))) (cCons (cI 6) (cNil)))) (cNil))))) (tgName 1) (cYes) (cCall 1 false m__law_right (cCons (cCall 2 true m__law_spring (cCons (cV 0) (cCons (cV 1) (cNil)))) (cNil)))) (cNil)))
noncomputable def m_law : Fn := runF 2 b_law
end T3
namespace T3
open PySem PySem.Spec PyProof.Rows L2
variable {s t : List Nat} {n : Nat}
/-! ### what the checks say, of any data -/
/-- data of which the type can be asked -/
noncomputable def tyB : D → Bool
  | .str x => decide (x.length ≤ 1000)
  | .ins _ _ _ => false
  | .wt _ => false
  | _ => true
noncomputable def wholeB (lo hi : Int) : D → Bool
  | .int i => decide (lo ≤ i) && decide (i ≤ hi)
  | _ => false
noncomputable def sgnB (c : Nat) : Bool := decide (c ∈ [48, 49, 50])
noncomputable def l3 (k : Nat) : Bool := decide (k ∈ [3, 9, 27])
noncomputable def isTs (x : Str) : Bool := l3 x.length && x.cps.toList.all sgnB
noncomputable def isTb : D → Bool
  | .str x => isTs x
  | _ => false
theorem in_sgn (c : Nat) (S : Store) : fIn (.val (.str ⟨#[c]⟩)) (.val (.str "012")) S = .ok (.val (.bl (sgnB c))) S := by
  unfold fIn fInB
  rfl
theorem signs_any (x : Str) : signsD x = x.cps.toList.map fun c => D.str ⟨#[c]⟩ := by
  unfold signsD
  first | rfl | simp
theorem k_whole {d : D} (h : tyB d = true) (lo hi : Int) (S : Store) : callIn false m__law_is_whole [.val d, .val (.int lo), .val (.int hi)] S = .ok (.val (.bl (wholeB lo hi d))) S := by
  refine call_vb (ds := [d, .int lo, .int hi]) (S1 := []) rfl ?_ false
  unfold m__law_is_whole b__law_is_whole runF
  cases d with
  | ins _ _ _ => cases h
  | wt _ => cases h
  | int i =>
    simp [tyD, subT, wholeB]
    by_cases h1 : lo ≤ i <;> simp [h1]
  | _ => simp [tyD, subT, wholeB]
theorem k_betw {d : D} (h : tyB d = true) (lo hi : Int) (S : Store) : callIn false m_is_between [.val d, .val (.int lo), .val (.int hi)] S = .ok (.val (.bl (wholeB lo hi d))) S := by
  have e : ∀ S, callIn false m_is_integer [.val d] S = .ok (.val (.bl (match d with | .int _ => true | _ => false))) S := fun S => by
    refine call_vb (ds := [d]) (S1 := []) rfl ?_ false
    unfold m_is_integer b_is_integer runF
    cases d with
    | ins _ _ _ => cases h
    | wt _ => cases h
    | _ => simp [tyD, subT]
  refine call_vb (ds := [d, .int lo, .int hi]) (S1 := []) rfl ?_ false
  unfold m_is_between b_is_between runF
  cases d with
  | ins _ _ _ => cases h
  | wt _ => cases h
  | int i =>
    simp [e, wholeB]
    by_cases h1 : lo ≤ i <;> simp [h1]
  | _ => simp [e, wholeB]
theorem in_lst (k : Nat) (l : List Nat) (S : Store) : fIn (.val (.int (k : Nat))) (.val (.lst (l.map nD))) S = .ok (.val (.bl (decide (k ∈ l)))) S := by
  have e : fInB (.val (.int (k : Nat))) (.val (.lst (l.map nD))) S = some (decide (k ∈ l)) := by
    show (if (true && (l.map nD).all flatD) = true then some (inD (nD k) (l.map nD)) else _) = _
    rw [flat_nD, inD_nD]
    rfl
  unfold fIn
  rw [e]
theorem lens_in (k : Nat) (S : Store) : fIn (.val (.int (k : Nat))) (.val (.lst [.int 3, .int 9, .int 27])) S = .ok (.val (.bl (l3 k))) S := in_lst k [3, 9, 27] S
theorem lens_notin (k : Nat) (S : Store) : fNotIn (.val (.int (k : Nat))) (.val (.lst [.int 3, .int 9, .int 27])) S = .ok (.val (.bl (!l3 k))) S := notin_lst k [3, 9, 27] S
theorem all_bools {α : Type} (p : α → Bool) (l : List α) (S : Store) : fAll [.val (.lst (l.map fun x => D.bl (p x)))] S = .ok (.val (.bl (l.all p))) S := by
  rw [all_lst, boolsOf_map p]
  simp [List.all_map]
theorem k_isT {d : D} (h : tyB d = true) (S : Store) : callIn false m_is_table [.val d] S = .ok (.val (.bl (isTb d))) S := by
  refine call_vb (ds := [d]) (S1 := []) rfl ?_ false
  unfold m_is_table b_is_table runF
  cases d with
  | ins _ _ _ => cases h
  | wt _ => cases h
  | str x =>
    have hx : x.length ≤ 1000 := of_decide_eq_true h
    have z0 : szOk x.length = true := szOk_le hx
    cases hl : l3 x.length with
    | true =>
      have key : ∀ (S : Store), lcGo (elm (tgName 1) cYes (cBin fIn (cV 1) (cK g_DIGITS)) [some (.val (.str x)), none, none]) (signsD x) S = some (x.cps.toList.map fun c => D.bl (sgnB c), S) := fun S => by
        rw [signs_any]
        exact lcGo_on fun c hc => by simp [in_sgn, g_DIGITS]
      have z1 : szOk x.cps.size = true := szOk_le hx
      have ha := fun S => all_bools sgnB x.cps.toList S
      simp [tyD, subT, isTb, isTs, g_MOST_PLACES, rg3, lcGo, cs1, cs2, cs3, lens_notin, z0, hl, key, z1, ha]
    | false => simp [tyD, subT, isTb, isTs, g_MOST_PLACES, rg3, lcGo, cs1, cs2, cs3, lens_notin, z0, hl]
  | _ => simp [tyD, subT, isTb]
/-- a text that is a table -/
theorem isTs_ok {x : Str} (h : isTs x = true) : ∃ t n, Tb t n ∧ x = tx t := by
  unfold isTs at h
  unfold l3 at h
  rw [Bool.and_eq_true, decide_eq_true_eq, List.all_eq_true] at h
  obtain ⟨h1, h2⟩ := h
  have hl : x.cps.toList.length = x.length := by simp [Str.length]
  have hd : ∀ c ∈ x.cps.toList, c = 48 ∨ c = 49 ∨ c = 50 := fun c hc => by
    have := h2 c hc
    unfold sgnB at this
    simpa using this
  have e : x = tx (x.cps.toList.map (· - 48)) := by
    unfold tx
    rw [List.map_map]
    have : x.cps.toList.map ((fun d => 48 + d) ∘ fun c => c - 48) = x.cps.toList := by
      conv => rhs; rw [← List.map_id x.cps.toList]
      refine List.map_congr_left fun c hc => ?_
      have := hd c hc
      show 48 + (c - 48) = c
      omega
    rw [this]
  have hdg : Dg (x.cps.toList.map (· - 48)) := fun y hy => by
    obtain ⟨c, hc, rfl⟩ := List.mem_map.mp hy
    have := hd c hc
    omega
  have hlen : (x.cps.toList.map (· - 48)).length = x.length := by rw [List.length_map, hl]
  simp at h1
  rcases h1 with h1 | h1 | h1
  · exact ⟨_, 1, ⟨hdg, by rw [hlen, h1], by decide, by decide⟩, e⟩
  · exact ⟨_, 2, ⟨hdg, by rw [hlen, h1], by decide, by decide⟩, e⟩
  · exact ⟨_, 3, ⟨hdg, by rw [hlen, h1], by decide, by decide⟩, e⟩
theorem isTb_ok {d : D} (h : isTb d = true) : ∃ t n, Tb t n ∧ d = .str (tx t) := by
  cases d with
  | str x =>
    obtain ⟨t, n, h1, h2⟩ := isTs_ok h
    exact ⟨t, n, h1, by rw [h2]⟩
  | _ => cases h
theorem isTb_tx (h : Tb t n) : isTb (.str (tx t)) = true := by
  show isTs (tx t) = true
  unfold isTs l3
  rw [tx_len, tx_list, Bool.and_eq_true, decide_eq_true_eq, List.all_map, List.all_eq_true]
  refine ⟨?_, fun x hx => ?_⟩
  · rw [h.len]
    rcases h.cases with e | e | e <;> subst e <;> decide
  · have := h.dg x hx
    show decide (48 + x ∈ [48, 49, 50]) = true
    simp
    omega
theorem call_exc {f : Fn} {xs : List A} {ds : List D} {e : X0} {S S1 : Store} (hx : xs = ds.map A.val) (h : f xs [] = .exc e S1) (b : Bool) : callIn b f xs S = .exc e S := by
  subst hx
  unfold callIn
  rw [vals_refs, if_pos List.nodup_nil]
  simp only [getAll, List.all_nil, if_true]
  rw [vals_renum, h]
  simp [back, putAll]
/-- the error of a wrong table -/
theorem k_bad {d : D} (h : tyB d = true) (hb : isTb d = false) (S : Store) : callIn false m_check_table [.val d] S = .exc ⟨2, ["given"], [d]⟩ S := by
  refine call_exc (ds := [d]) (S1 := []) rfl ?_ false
  unfold m_check_table b_check_table runF
  have e := fun S => k_isT h S
  rw [hb] at e
  simp [e, sRaiseX]
end T3
namespace T3
open PySem PySem.Spec PyProof.Rows L2
variable {s t : List Nat} {n : Nat}
/-! ### what is told of errors -/
theorem mE2 (d : D) : callIn false (m__law_error 2) [.val (.ins 1000 ["given"] [d])] [] = .ok (.val (.str "InvalidTable")) [] := by kernel_rfl
theorem mE3 (d : D) : callIn false (m__law_error 3) [.val (.ins 1000 ["given"] [d])] [] = .ok (.val (.str "InvalidWord")) [] := by kernel_rfl
theorem mE6 (d : D) : callIn false (m__law_error 6) [.val (.ins 1000 ["given"] [d])] [] = .ok (.val (.str "InvalidOrder")) [] := by kernel_rfl
theorem mF2 (d : D) : callIn false m__law_field [.val (.ins 1000 ["given"] [d]), .val (.str "InvalidTable")] [] = .ok (.val d) [] := by kernel_rfl
theorem mF3 (d : D) : callIn false m__law_field [.val (.ins 1000 ["given"] [d]), .val (.str "InvalidWord")] [] = .ok (.val d) [] := by kernel_rfl
theorem mF6 (d : D) : callIn false m__law_field [.val (.ins 1000 ["given"] [d]), .val (.str "InvalidOrder")] [] = .ok (.val d) [] := by kernel_rfl
noncomputable def wordOf (i : Nat) : Str := if i = 2 then "InvalidTable" else if i = 3 then "InvalidWord" else "InvalidOrder"
/-- it has a repr, and no instance -/
noncomputable def rpB (d : D) : Bool := nIns d && (match fReprD [.val d] [] with
  | .ok (.val (.str r)) [] => PyData.strOk r
  | _ => false)
noncomputable def rpOf (d : D) : Str := match fReprD [.val d] [] with
  | .ok (.val (.str r)) [] => r
  | _ => ""
theorem rp_ok' {d : D} (h : rpB d = true) : nIns d = true ∧ fReprD [.val d] [] = .ok (.val (.str (rpOf d))) [] ∧ PyData.strOk (rpOf d) = true := by
  unfold rpB at h
  rw [Bool.and_eq_true] at h
  refine ⟨h.1, ?_⟩
  have h2 := h.2
  unfold rpOf
  split at h2
  · rename_i r e
    rw [e]
    exact ⟨rfl, h2⟩
  · cases h2
theorem repr_st0 (d : D) (S : Store) : fRepr [.val d] S = (match fRepr [.val d] [] with
    | .ok x _ => .ok x S
    | .exc e _ => .exc e S
    | .bad => .bad) := by
  show (if rpOk d then Res.ok (.val (.str (rp d))) S else .bad) = (match (if rpOk d then Res.ok (.val (.str (rp d))) [] else .bad) with
    | .ok x _ => .ok x S
    | .exc e _ => .exc e S
    | .bad => .bad)
  split <;> rfl
theorem repr_st (d : D) (S : Store) : fReprD [.val d] S = (match fReprD [.val d] [] with
    | .ok x _ => .ok x S
    | .exc e _ => .exc e S
    | .bad => .bad) := by
  cases d with
  | dic ks ds =>
    show (match strsK ks, intsOf ds with
      | some ss, some is => if ss.length == is.length && (siP (ss.zip is)).showable && decide ((siP (ss.zip is)).depth ≤ 60) && szOk (siP (ss.zip is)).shown.length then Res.ok (.val (.str (siP (ss.zip is)).shown)) S else .bad
      | _, _ => .bad) = (match (match strsK ks, intsOf ds with
      | some ss, some is => if ss.length == is.length && (siP (ss.zip is)).showable && decide ((siP (ss.zip is)).depth ≤ 60) && szOk (siP (ss.zip is)).shown.length then Res.ok (.val (.str (siP (ss.zip is)).shown)) [] else .bad
      | _, _ => .bad) with
      | .ok x _ => .ok x S
      | .exc e _ => .exc e S
      | .bad => .bad)
    cases strsK ks with
    | none => rfl
    | some ss =>
      cases intsOf ds with
      | none => rfl
      | some is =>
        dsimp only
        split <;> rfl
  | non => exact repr_st0 .non S
  | bl b => exact repr_st0 (.bl b) S
  | wt x => exact repr_st0 (.wt x) S
  | ins c ns vs => exact repr_st0 (.ins c ns vs) S
  | _ => exact repr_st0 _ S
theorem repr_any {d : D} (h : rpB d = true) (S : Store) : fReprD [.val d] S = .ok (.val (.str (rpOf d))) S := by
  rw [repr_st, (rp_ok' h).2.1]
theorem tbl_any {i : Nat} {d : D} (hi : i ∈ [2, 3, 6]) (h : rpB d = true) : t_law.tbl ⟨i, ["given"], [d]⟩ = some (wordOf i, rpOf d) := by
  obtain ⟨h1, h2, _⟩ := rp_ok' h
  have hn : nInsL [d] = true := by simp [nInsL, h1]
  have e0 : ("error" : Str) == "error" := rfl
  simp only [List.mem_cons, List.not_mem_nil, or_false] at hi
  rcases hi with rfl | rfl | rfl
  · simp [t_law, mkErr, hn, bSuite, mE2, mF2, h2, wordOf]
  · simp [t_law, mkErr, hn, bSuite, mE3, mF3, h2, wordOf]
  · simp [t_law, mkErr, hn, bSuite, mE6, mF6, h2, wordOf]
noncomputable def isNilD : D → Bool
  | .lst [] => true
  | _ => false
theorem isNil_eq : ∀ {d : D}, isNilD d = true → d = .lst []
  | .lst [], _ => rfl
/-- told -/
noncomputable def toldR (T : ErrT) : Res → Res
  | .ok (.val d) S1 => .ok (.val (.lst [.str "told", d])) S1
  | .ok (.ref _) _ => .bad
  | .exc e S1 => (match T.tbl e with
    | some (w, r) => .ok (.val (.lst [.str "error", .str w, .str r])) S1
    | none => .bad)
  | .bad => .bad
@[simp ↓] theorem ap_Told {T : ErrT} {c : CE} {ρ : Slots} {S : Store} : cTold T c ρ S = toldR T (c ρ S) := by
  unfold cTold toldR
  rfl
@[simp] theorem toldR_val {T : ErrT} {d : D} {S : Store} : toldR T (.ok (.val d) S) = .ok (.val (.lst [.str "told", d])) S := rfl
noncomputable def erD (i : Nat) (d : D) : D := .lst [.str "error", .str (wordOf i), .str (rpOf d)]
theorem toldR_er {i : Nat} {d : D} {S : Store} (hi : i ∈ [2, 3, 6]) (h : rpB d = true) : toldR t_law (.exc ⟨i, ["given"], [d]⟩ S) = .ok (.val (erD i d)) S := by
  show (match t_law.tbl ⟨i, ["given"], [d]⟩ with | some (w, r) => Res.ok (.val (.lst [.str "error", .str w, .str r])) S | none => .bad) = _
  rw [tbl_any hi h]
  rfl
theorem k_wrong {i : Nat} {d : D} (h : rpB d = true) (b : Bool) (S : Store) : callIn false m__law_wrong [.val (.bl b), .val (.str (wordOf i)), .val d] S = .ok (.val (if b then .lst [] else erD i d)) S := by
  refine call_val (ds := [.bl b, .str (wordOf i), d]) rfl ?_
  have e := fun S => repr_any h S
  unfold m__law_wrong b__law_wrong runF
  cases b with
  | true => simp [gives, frzO]
  | false => simp [gives, frzO, e, erD]
theorem er_shp {i : Nat} {d : D} (hi : i ∈ [2, 3, 6]) (h : rpB d = true) : shp (erD i d) = true := by
  have h3 := (rp_ok' h).2.2
  have hw : PyData.strOk (wordOf i) = true := by
    simp only [List.mem_cons, List.not_mem_nil, or_false] at hi
    rcases hi with rfl | rfl | rfl <;> decide +kernel
  have he : PyData.strOk ("error" : Str) = true := by decide +kernel
  simp [erD, shp, dOk, dOkL, dDep, dDepL, h3, hw, he]
theorem ne_er {i : Nat} {d : D} (hi : i ∈ [2, 3, 6]) (h : rpB d = true) (S : Store) : fNe (.val (erD i d)) (.val (.lst [])) S = .ok (.val (.bl true)) S := by
  have e := er_shp hi h
  show (if (shp (erD i d) && shp (.lst [])) = true then Res.ok (.val (.bl (!dEq (erD i d) (.lst [])))) S else .bad) = _
  rw [e]
  rfl
theorem ne_nil (S : Store) : fNe (.val (.lst [])) (.val (.lst [])) S = .ok (.val (.bl false)) S := rfl
/-- what is due: nothing, or an error -/
noncomputable def DueD (x : D) : Prop := x = .lst [] ∨ ∃ i d, i ∈ [2, 3, 6] ∧ rpB d = true ∧ x = erD i d
theorem ne_due {x : D} (h : DueD x) (S : Store) : fNe (.val x) (.val (.lst [])) S = .ok (.val (.bl (!isNilD x))) S := by
  rcases h with rfl | ⟨i, d, hi, hd, rfl⟩
  · rfl
  · exact ne_er hi hd S
theorem k_first {x y : D} (hx : DueD x) (hy : DueD y) (S : Store) : callIn false m__law_first [.val (.lst [x, y])] S = .ok (.val (if isNilD x then y else x)) S := by
  refine call_val (ds := [.lst [x, y]]) rfl ?_
  have e1 := fun S => ne_due hx S
  have e2 := fun S => ne_due hy S
  unfold m__law_first b__law_first runF
  cases h1 : isNilD x <;> cases h2 : isNilD y <;> simp [lcGo, e1, e2, h1, h2, gives]
  exact (isNil_eq h2).symm
end T3
namespace T3
open PySem PySem.Spec PyProof.Rows L2
variable {s t : List Nat} {n : Nat}
@[simp ↓] theorem ap_CallV {tbl : Nat → Option Fn} {k : Nat} {ad : Bool} {ce : CE} {c : CA} {ρ : Slots} {S : Store} : cCallV tbl k ad ce c ρ S = (match ce ρ S with
    | .ok x S1 => (match x with
      | .val (.ins i [] []) => (match tbl i with
        | some f => cCall k ad f c ρ S1
        | none => .bad)
      | _ => .bad)
    | .exc e S1 => .exc e S1
    | .bad => .bad) := by
  unfold cCallV
  cases ce ρ S <;> rfl
/-- told and due fit -/
noncomputable def FitD (x y : D) : Prop := (∃ i d, i ∈ [2, 3, 6] ∧ rpB d = true ∧ x = erD i d ∧ y = erD i d) ∨ (y = .lst [] ∧ ∃ v, x = .lst [.str "told", v] ∧ dOk v = true ∧ dDep v ≤ 55)
theorem fit_val {v : D} (h : dOk v = true) (h2 : dDep v ≤ 55) : FitD (.lst [.str "told", v]) (.lst []) := .inr ⟨rfl, v, rfl, h, h2⟩
theorem fit_er {i : Nat} {d : D} (hi : i ∈ [2, 3, 6]) (h : rpB d = true) : FitD (erD i d) (erD i d) := .inl ⟨i, d, hi, h, rfl, rfl⟩
noncomputable def dueB (d : D) : D := if isTb d then .lst [] else erD 2 d
theorem dueB_due {d : D} (h : rpB d = true) : DueD (dueB d) := by
  unfold dueB
  split
  · exact .inl rfl
  · exact .inr ⟨2, d, by decide, h, rfl⟩
theorem ok_tupN (l : List Nat) : dOk (tupN l) = true ∧ dDep (tupN l) ≤ 5 := ⟨okL_nD l, by show dDepL (l.map nD) + 1 ≤ 5; rw [depL_nD]; decide⟩
end T3
namespace T3
open PySem PySem.Spec PyProof.Rows L2
variable {s t : List Nat} {n : Nat}
/-! ### the repr of texts of signs, of lists and tuples of them -/
noncomputable def Sg (x : Str) : Prop := ∀ c ∈ x.cps.toList, c < 0x110000
theorem sg_ok {x : Str} (h : Sg x) : PyData.strOk x = true := by
  unfold PyData.strOk
  rw [← Array.all_toList, List.all_eq_true]
  exact fun c hc => decide_eq_true (h c hc)
theorem sg_app {a b : Str} (ha : Sg a) (hb : Sg b) : Sg (a ++ b) := fun c hc => by
  have hc : c ∈ (a.cps ++ b.cps).toList := hc
  rw [Array.toList_append, List.mem_append] at hc
  exact hc.elim (ha c) (hb c)
theorem sg_lit {x : Str} (h : PyData.strOk x = true) : Sg x := fun c hc => by
  unfold PyData.strOk at h
  rw [← Array.all_toList, List.all_eq_true] at h
  exact of_decide_eq_true (h c hc)
noncomputable def dgS (x : Str) : Bool := x.cps.toList.all fun c => decide (48 ≤ c) && decide (c ≤ 51)
theorem rc_dig (q : Nat) (hq : q = 34 ∨ q = 39) (c : Nat) (h1 : 48 ≤ c) (h2 : c ≤ 51) : Builtin.Str.reprChar q c = [c] := by
  have : c = 48 ∨ c = 49 ∨ c = 50 ∨ c = 51 := by omega
  rcases hq with rfl | rfl <;> rcases this with rfl | rfl | rfl | rfl <;> decide +kernel
theorem fold_dig (q : Nat) (hq : q = 34 ∨ q = 39) : ∀ (l : List Nat) (acc : Array Nat), (∀ c ∈ l, 48 ≤ c ∧ c ≤ 51) → (∀ c ∈ acc.toList, c < 0x110000) → ∀ c ∈ (l.foldl (fun out c => out ++ (Builtin.Str.reprChar q c).toArray) acc).toList, c < 0x110000
  | [], acc, _, h => h
  | x :: r, acc, hl, h => by
    rw [List.foldl_cons]
    refine fold_dig q hq r _ (fun c hc => hl c (List.mem_cons_of_mem _ hc)) fun c hc => ?_
    have hx := hl x List.mem_cons_self
    rw [rc_dig q hq x hx.1 hx.2, Array.toList_append, List.mem_append] at hc
    rcases hc with hc | hc
    · exact h c hc
    · simp at hc
      omega
theorem sg_repr {x : Str} (h : dgS x = true) : Sg (reprText x) := by
  have hq : reprQuote x = 34 ∨ reprQuote x = 39 := by
    unfold reprQuote
    split
    · exact .inl rfl
    · exact .inr rfl
  have hx : ∀ c ∈ x.cps.toList, 48 ≤ c ∧ c ≤ 51 := fun c hc => by
    have := List.all_eq_true.mp h c hc
    rw [Bool.and_eq_true, decide_eq_true_eq, decide_eq_true_eq] at this
    exact this
  intro c hc
  unfold reprText at hc
  rw [Array.toList_push, List.mem_append] at hc
  rcases hc with hc | hc
  · rw [← Array.foldl_toList] at hc
    refine fold_dig (reprQuote x) hq x.cps.toList _ hx (fun c hc => ?_) c hc
    simp at hc
    omega
  · simp at hc
    omega
theorem sg_from : ∀ (ts : List Str) (k : Nat) (acc : Str), Sg acc → (∀ t ∈ ts, Sg t) → Sg (textFrom k acc ts)
  | [], _, _, h, _ => h
  | t :: r, k, acc, h, ht => sg_from r (k + 1) _ (sg_app (sg_app h (by split <;> exact sg_lit (by decide +kernel))) (ht t List.mem_cons_self)) fun y hy => ht y (List.mem_cons_of_mem _ hy)
theorem sg_join : ∀ ts : List Str, (∀ t ∈ ts, Sg t) → Sg (Str.join ", " ts)
  | [], _ => sg_lit (by decide +kernel)
  | [x], h => h x List.mem_cons_self
  | x :: y :: r, h => sg_app (sg_app (h x List.mem_cons_self) (sg_lit (by decide +kernel))) (sg_join (y :: r) fun z hz => h z (List.mem_cons_of_mem _ hz))
theorem sg_list {ts : List Str} (h : ∀ t ∈ ts, Sg t) : Sg (listText ts) := sg_app (sg_from ts 0 _ (sg_lit (by decide +kernel)) h) (sg_lit (by decide +kernel))
theorem sg_tup {ts : List Str} (h : ∀ t ∈ ts, Sg t) : Sg (tupleText ts) := sg_app (sg_app (sg_lit (by decide +kernel)) (sg_join ts h)) (by split <;> exact sg_lit (by decide +kernel))
theorem dg_strOk {x : Str} (h : dgS x = true) : PyData.strOk x = true := sg_ok fun c hc => by
  have := List.all_eq_true.mp h c hc
  rw [Bool.and_eq_true, decide_eq_true_eq, decide_eq_true_eq] at this
  omega
/-- texts of signs, at most 100 of at most 30 -/
noncomputable def strL (xs : List Str) : List D := xs.map D.str
theorem shown_L : ∀ xs : List Str, PyData.shownAll (toPL (strL xs)) = xs.map reprText
  | [] => rfl
  | x :: r => congrArg (reprText x :: ·) (shown_L r)
theorem okL_S : ∀ xs : List Str, (∀ x ∈ xs, dgS x = true) → dOkL (strL xs) = true ∧ shwL (strL xs) = true ∧ dDepL (strL xs) = 0 ∧ nInsL (strL xs) = true
  | [], _ => ⟨rfl, rfl, rfl, rfl⟩
  | x :: r, h => by
    obtain ⟨a, b, c, d⟩ := okL_S r fun y hy => h y (List.mem_cons_of_mem _ hy)
    refine ⟨?_, ?_, ?_, ?_⟩
    · show (PyData.strOk x && dOkL (strL r)) = true
      rw [dg_strOk (h x List.mem_cons_self), a]
      rfl
    · show (true && shwL (strL r)) = true
      rw [b]
      rfl
    · show max 0 (dDepL (strL r)) = 0
      rw [c]
      rfl
    · show (true && nInsL (strL r)) = true
      rw [d]
      rfl
theorem rszL_S : ∀ xs : List Str, (∀ x ∈ xs, x.length ≤ 30) → rszL (strL xs) ≤ 304 * xs.length
  | [], _ => Nat.le_refl _
  | x :: r, h => by
    have ih := rszL_S r fun y hy => h y (List.mem_cons_of_mem _ hy)
    have hx := h x List.mem_cons_self
    show 10 * x.length + 2 + 2 + rszL (strL r) ≤ 304 * (r.length + 1)
    omega
theorem rp_of {d : D} (h1 : dOk d = true) (h2 : shw d = true) (h3 : dDep d ≤ 60) (h4 : rsz d ≤ 16000000) (h5 : nIns d = true) (h6 : Sg (PyData.shown (toP d))) (h7 : ∀ S, fReprD [.val d] S = fRepr [.val d] S) : rpB d = true := by
  have ho : rpOk d = true := by
    unfold rpOk shp
    rw [h1, h2, decide_eq_true h3]
    exact decide_eq_true h4
  unfold rpB
  rw [h5, h7]
  show (match (if rpOk d then Res.ok (.val (.str (rp d))) [] else .bad) with
    | .ok (.val (.str r)) [] => PyData.strOk r
    | _ => false) = true
  rw [if_pos ho]
  exact sg_ok h6
theorem rp_str {x : Str} (h : dgS x = true) (hl : x.length ≤ 30) : rpB (.str x) = true :=
  rp_of (dg_strOk h) rfl (by show 0 ≤ 60; decide) (by show 10 * x.length + 2 ≤ _; omega) rfl (sg_repr h) fun S => rfl
theorem rp_lstS {xs : List Str} (h : ∀ x ∈ xs, dgS x = true) (hl : ∀ x ∈ xs, x.length ≤ 30) (hn : xs.length ≤ 100) : rpB (.lst (strL xs)) = true := by
  obtain ⟨a, b, c, d⟩ := okL_S xs h
  refine rp_of a b (by show dDepL (strL xs) + 1 ≤ 60; rw [c]; decide) (by show rszL (strL xs) + 4 ≤ _; have := rszL_S xs hl; omega) d ?_ fun S => rfl
  show Sg (listText (PyData.shownAll (toPL (strL xs))))
  rw [shown_L]
  refine sg_list fun t ht => ?_
  obtain ⟨x, hx, rfl⟩ := List.mem_map.mp ht
  exact sg_repr (h x hx)
theorem rp_tupS {xs : List Str} (h : ∀ x ∈ xs, dgS x = true) (hl : ∀ x ∈ xs, x.length ≤ 30) (hn : xs.length ≤ 100) : rpB (.tup (strL xs)) = true := by
  obtain ⟨a, b, c, d⟩ := okL_S xs h
  refine rp_of a b (by show dDepL (strL xs) + 1 ≤ 60; rw [c]; decide) (by show rszL (strL xs) + 4 ≤ _; have := rszL_S xs hl; omega) d ?_ fun S => rfl
  show Sg (tupleText (PyData.shownAll (toPL (strL xs))))
  rw [shown_L]
  refine sg_tup fun t ht => ?_
  obtain ⟨x, hx, rfl⟩ := List.mem_map.mp ht
  exact sg_repr (h x hx)
theorem dg_tx {l : List Nat} (h : ∀ x ∈ l, x < 4) : dgS (tx l) = true := by
  unfold dgS
  rw [tx_list, List.all_map, List.all_eq_true]
  intro x hx
  have := h x hx
  show (decide (48 ≤ 48 + x) && decide (48 + x ≤ 51)) = true
  rw [Bool.and_eq_true, decide_eq_true_eq, decide_eq_true_eq]
  omega
end T3
namespace T3
open PySem PySem.Spec PyProof.Rows L2
variable {s t : List Nat} {n : Nat}
/-! ### the menus -/
theorem cut1 (l : List Nat) : cutS (tx l) (some 1) none = tx (l.drop 1) := by
  unfold cutS
  rw [tx_len, tx_list, HT.sIx_none, show (some (1 : Int)) = some ((1 : Nat) : Int) from rfl, HT.sIx_nat]
  cases l with
  | nil => rfl
  | cons x r =>
    unfold tx
    have e : min 1 (x :: r).length = 1 := by simp
    rw [e, List.map_cons, List.drop_succ_cons, List.drop_zero, List.drop_succ_cons, List.drop_zero]
    rw [List.take_of_length_le (by simp)]
theorem cutm (l : List Nat) : cutS (tx l) none (some (-1)) = tx l.dropLast := by
  unfold cutS
  rw [tx_len, tx_list, HT.sIx_none]
  have e : HT.sIx l.length l.length (some (-1)) = l.length - 1 := by
    show (if (-1 : Int) < 0 then ((-1 : Int) + (l.length : Int)).toNat else min ((-1 : Int)).toNat l.length) = _
    rw [if_pos (by decide)]
    omega
  rw [e, List.drop_zero, Nat.sub_zero]
  unfold tx
  rw [← List.map_take, List.dropLast_eq_take]
/-- what may be asked as a table -/
structure Bt (d : D) : Prop where
  ty : tyB d = true
  rp : rpB d = true
theorem Bt.str {l : List Nat} (h : ∀ x ∈ l, x < 4) (hl : l.length ≤ 30) : Bt (.str (tx l)) :=
  ⟨decide_eq_true (by rw [tx_len]; omega), rp_str (dg_tx h) (by rw [tx_len]; exact hl)⟩
theorem Bt.lst {l : List Nat} (h : ∀ x ∈ l, x < 3) (hl : l.length ≤ 30) : Bt (.lst (l.map fun x => D.str (sg x))) := by
  have e : (l.map fun x => D.str (sg x)) = strL (l.map sg) := by
    unfold strL
    rw [List.map_map]
    rfl
  refine ⟨rfl, ?_⟩
  rw [e]
  refine rp_lstS (fun y hy => ?_) (fun y hy => ?_) (by rw [List.length_map]; omega)
  · obtain ⟨x, hx, rfl⟩ := List.mem_map.mp hy
    exact dg_tx (l := [x]) fun z hz => by have := h x hx; simp at hz; omega
  · obtain ⟨x, hx, rfl⟩ := List.mem_map.mp hy
    show 1 ≤ 30
    decide
noncomputable def oddL : List D := [.non, .bl true, .bl false, .int 0, .int 1, .int (-1), .int 7, .int 1000000000000000000000000000000000000000, .str "", .str "a", .str "012", .str "0123", .str "013", .str "set 0", .str "set", .str "turn", .str "up 120"] ++ ([
  .str "up", .tup [], .tup [.int 0], .tup [.int 0, .int 1], .tup [.int 1, .int 0], .tup [.int 0, .int 0], .tup [.bl true, .int 0], .tup [.int 0, .int 1, .int 2], .tup [.int 2, .int 1, .int 0], .tup [.str "012"], .tup [.str "up"]] ++ [
  .lst [], .lst [.int 0], .lst [.str "x"], .dic [] [], .dic [.inr "a"] [.int 0], .tup [.lst []], .tup [.non], .tup [.tup []], .tup [.str "all"], .tup [.str "keeps", .str "turn"], .tup [.str "makes", .str "111"],
  .tup [.str "alike", .str "a", .str "b"], .tup [.str "a", .tup [.str "all"]], .tup [.bl true]])
theorem odd_ok : ∀ i : _root_.Fin 42, (tyB (oddL.getD i.val .non) && rpB (oddL.getD i.val .non)) = true := by decide +kernel
theorem odd_bt {d : D} (h : d ∈ oddL) : Bt d := by
  obtain ⟨i, hi, rfl⟩ := List.getElem_of_mem h
  have hi' : i < 42 := hi
  have := odd_ok ⟨i, hi'⟩
  rw [Bool.and_eq_true] at this
  have e : oddL.getD i .non = oddL[i] := by rw [List.getD_eq_getElem?_getD, List.getElem?_eq_getElem hi]; rfl
  rw [e] at this
  exact ⟨this.1, this.2⟩
theorem c_odd (p q r : Int) : ∃ d ∈ oddL, ∃ p' q' r', m__law_odd [.ref 0] [spr p q r] = .ok (.val d) [spr p' q' r'] := by
  obtain ⟨d, hd, p', q', r', e⟩ := k_of [spr p q r] 0 p q r oddL rfl (by decide) (by decide)
  refine ⟨d, hd, p', q', r', ?_⟩
  simp only [oddL, List.cons_append, List.nil_append] at e
  unfold m__law_odd b__law_odd runF
  have z : fPow (.val (.int 10)) (.val (.int 39)) = fun S => .ok (.val (.int 1000000000000000000000000000000000000000)) S := by funext S; rfl
  have z2 : ∀ S, fNeg (.val (.int 1)) S = .ok (.val (.int (-1))) S := fun S => rfl
  simp [z, z2, e, cDic0, cDicC, szOk]
theorem k_odd (S : Store) (i : Nat) (p q r : Int) (hi : S[i]? = some (spr p q r)) : ∃ d p' q' r', Bt d ∧ callIn false m__law_odd [.ref i] S = .ok (.val d) (S.set i (spr p' q' r')) := by
  obtain ⟨d, hd, p', q', r', e⟩ := c_odd p q r
  exact ⟨d, p', q', r', odd_bt hd, call_one1 hi rfl e rfl⟩
end T3
namespace T3
open PySem PySem.Spec PyProof.Rows L2
variable {s t : List Nat} {n : Nat} {w : Str}
/-! ### words -/
noncomputable def wdB : D → Bool
  | .str x => Wds.contains x
  | _ => false
theorem in_words (x : Str) (S : Store) : fIn (.val (.str x)) (.val (.tup (Wds.map wD))) S = .ok (.val (.bl (Wds.contains x))) S := by
  have e : fInB (.val (.str x)) (.val (.tup (Wds.map wD))) S = some (Wds.contains x) := by
    show (if (flatD (wD x) && (Wds.map wD).all flatD) = true then some (inD (wD x) (Wds.map wD)) else (match asL S (.val (.tup (Wds.map wD))) with
      | some ds => if shp (wD x) && dOkL ds && decide (dDepL ds ≤ 50) then some (inD (wD x) ds) else none
      | none => none)) = _
    rw [flat_wD, inD_wD]
    exact if_pos rfl
  unfold fIn
  rw [e]
theorem in_wordsL (x : Str) (S : Store) : fIn (.val (.str x)) (.val (.lst (Wds.map wD))) S = .ok (.val (.bl (Wds.contains x))) S := by
  have e : fInB (.val (.str x)) (.val (.lst (Wds.map wD))) S = some (Wds.contains x) := by
    show (if (flatD (wD x) && (Wds.map wD).all flatD) = true then some (inD (wD x) (Wds.map wD)) else (if (shp (wD x) && dOkL (Wds.map wD) && decide (dDepL (Wds.map wD) ≤ 50)) = true then some (inD (wD x) (Wds.map wD)) else none)) = _
    rw [flat_wD, inD_wD]
    exact if_pos rfl
  unfold fIn
  rw [e]
theorem k_isword {d : D} (h : tyB d = true) (S : Store) : callIn false m_is_word [.val d] S = .ok (.val (.bl (wdB d))) S := by
  refine call_vb (ds := [d]) (S1 := []) rfl ?_ false
  have hg : g_WORDS = .tup (Wds.map wD) := rfl
  unfold m_is_word b_is_word runF
  cases d with
  | ins _ _ _ => cases h
  | wt _ => cases h
  | str x =>
    have e := fun S => in_words x S
    simp [tyD, subT, wdB, hg, e, -List.map_cons]
  | _ => simp [tyD, subT, wdB]
theorem k_bad3 {d : D} (h : tyB d = true) (hb : wdB d = false) (S : Store) : callIn false m_check_word [.val d] S = .exc ⟨3, ["given"], [d]⟩ S := by
  refine call_exc (ds := [d]) (S1 := []) rfl ?_ false
  have e := fun S => k_isword h S
  rw [hb] at e
  unfold m_check_word b_check_word runF
  simp [e, sRaiseX]
theorem wd_ok {d : D} (h : wdB d = true) : ∃ w ∈ Wds, d = wD w := by
  cases d with
  | str x => exact ⟨x, by simpa [wdB] using h, rfl⟩
  | _ => cases h
noncomputable def dueW (d : D) : D := if wdB d then .lst [] else erD 3 d
noncomputable def dueBW (b d : D) : D := if isTb b then dueW d else erD 2 b
theorem dueW_due {d : D} (h : rpB d = true) : DueD (dueW d) := by
  unfold dueW
  split
  · exact .inl rfl
  · exact .inr ⟨3, d, by decide, h, rfl⟩
theorem okL_tx : ∀ l : List (List Nat), (∀ a ∈ l, Dg a) → dOkL (l.map txD) = true ∧ dDepL (l.map txD) = 0
  | [], _ => ⟨rfl, rfl⟩
  | x :: r, h => by
    obtain ⟨a, b⟩ := okL_tx r fun y hy => h y (List.mem_cons_of_mem _ hy)
    refine ⟨?_, ?_⟩
    · show (PyData.strOk (tx x) && dOkL (r.map txD)) = true
      rw [a, sg_ok fun c hc => by
        rw [tx_list] at hc
        obtain ⟨y, hy, rfl⟩ := List.mem_map.mp hc
        have := h x List.mem_cons_self y hy
        show 48 + y < _
        omega]
      rfl
    · show max 0 (dDepL (r.map txD)) = 0
      rw [b]
      rfl
theorem wd_str : ∀ w ∈ Wds, PyData.strOk w = true := by decide +kernel
theorem okL_wd : ∀ l : List Str, (∀ w ∈ l, w ∈ Wds) → dOkL (l.map wD) = true ∧ dDepL (l.map wD) = 0
  | [], _ => ⟨rfl, rfl⟩
  | x :: r, h => by
    obtain ⟨a, b⟩ := okL_wd r fun y hy => h y (List.mem_cons_of_mem _ hy)
    refine ⟨?_, ?_⟩
    · show (PyData.strOk x && dOkL (r.map wD)) = true
      rw [a, wd_str x (h x List.mem_cons_self)]
      rfl
    · show max 0 (dDepL (r.map wD)) = 0
      rw [b]
      rfl
section
variable {b d : D}
theorem k_relation7 (hw : w ∈ Wds) (S : Store) : callIn false m_relation [.val (wD w)] S = .ok (.val (.tup ((relN w).map tupN))) S := by
  refine call_vb (ds := [wD w]) (S1 := []) rfl ?_ false
  unfold m_relation b_relation runF
  have e := fun S => k_relation_of hw S
  simp [k_check_word hw, e]
theorem t_keepers (h : tyB d = true) (hr : rpB d = true) : ∃ x, (∀ S, toldR t_law (callIn false m_keepers [.val d] S) = .ok (.val x) S) ∧ FitD x (dueW d) := by
  cases hb : wdB d with
  | true =>
    obtain ⟨w, hw, rfl⟩ := wd_ok hb
    have e := fun S => k_keepers false hw S
    obtain ⟨o1, o2⟩ := okL_tx (keepN w) fun a ha => (allA_ok 3 a (List.mem_filter.mp ha).1).1
    refine ⟨.lst [.str "told", .tup ((keepN w).map txD)], fun S => by rw [e]; rfl, ?_⟩
    unfold dueW
    rw [hb]
    exact fit_val o1 (by show dDepL _ + 1 ≤ 55; rw [o2]; decide)
  | false =>
    have e : ∀ S, callIn false m_keepers [.val d] S = .exc ⟨3, ["given"], [d]⟩ S := fun S => by
      refine call_exc (ds := [d]) (S1 := []) rfl ?_ false
      unfold m_keepers b_keepers runF
      simp [k_bad3 h hb]
    exact ⟨erD 3 d, fun S => by rw [e]; exact toldR_er (by decide) hr, by unfold dueW; rw [hb]; exact fit_er (by decide) hr⟩
theorem lb_str : ∀ w ∈ Wds, PyData.strOk (tx (lbN w)) = true := by decide +kernel
theorem t_least (h : tyB d = true) (hr : rpB d = true) : ∃ x, (∀ S, toldR t_law (callIn false m_least_breaker [.val d] S) = .ok (.val x) S) ∧ FitD x (dueW d) := by
  cases hb : wdB d with
  | true =>
    obtain ⟨w, hw, rfl⟩ := wd_ok hb
    have e := fun S => k_least_breaker false hw S
    exact ⟨.lst [.str "told", txD (lbN w)], fun S => by rw [e]; rfl, by unfold dueW; rw [hb]; exact fit_val (lb_str w hw) (by show 0 ≤ 55; decide)⟩
  | false =>
    have e : ∀ S, callIn false m_least_breaker [.val d] S = .exc ⟨3, ["given"], [d]⟩ S := fun S => by
      refine call_exc (ds := [d]) (S1 := []) rfl ?_ false
      unfold m_least_breaker b_least_breaker runF
      simp [k_bad3 h hb]
    exact ⟨erD 3 d, fun S => by rw [e]; exact toldR_er (by decide) hr, by unfold dueW; rw [hb]; exact fit_er (by decide) hr⟩
theorem t_relation (h : tyB d = true) (hr : rpB d = true) : ∃ x, (∀ S, toldR t_law (callIn false m_relation [.val d] S) = .ok (.val x) S) ∧ FitD x (dueW d) := by
  cases hb : wdB d with
  | true =>
    obtain ⟨w, hw, rfl⟩ := wd_ok hb
    have e := fun S => k_relation7 hw S
    obtain ⟨o1, o2⟩ := okL_tupN (relN w)
    refine ⟨.lst [.str "told", .tup ((relN w).map tupN)], fun S => by rw [e]; rfl, ?_⟩
    unfold dueW
    rw [hb]
    exact fit_val o1 (by show dDepL _ + 1 ≤ 55; omega)
  | false =>
    have e : ∀ S, callIn false m_relation [.val d] S = .exc ⟨3, ["given"], [d]⟩ S := fun S => by
      refine call_exc (ds := [d]) (S1 := []) rfl ?_ false
      unfold m_relation b_relation runF
      simp [k_bad3 h hb]
    exact ⟨erD 3 d, fun S => by rw [e]; exact toldR_er (by decide) hr, by unfold dueW; rw [hb]; exact fit_er (by decide) hr⟩
theorem t_keeps (h : tyB b = true) (hr : rpB b = true) (hd : tyB d = true) (hrd : rpB d = true) : ∃ x, (∀ S, toldR t_law (callIn false m_keeps [.val b, .val d] S) = .ok (.val x) S) ∧ FitD x (dueBW b d) := by
  cases hb : isTb b with
  | true =>
    obtain ⟨t, n, ht, rfl⟩ := isTb_ok hb
    cases hw : wdB d with
    | true =>
      obtain ⟨w, hw2, rfl⟩ := wd_ok hw
      have e := fun S => k_keeps false ht hw2 S
      exact ⟨.lst [.str "told", .bl (keepsB t n w)], fun S => by rw [e]; rfl, by unfold dueBW dueW; rw [hb, hw]; exact fit_val rfl (by show 0 ≤ 55; decide)⟩
    | false =>
      have e : ∀ S, callIn false m_keeps [.val (.str (tx t)), .val d] S = .exc ⟨3, ["given"], [d]⟩ S := fun S => by
        refine call_exc (ds := [.str (tx t), d]) (S1 := []) rfl ?_ false
        unfold m_keeps b_keeps runF
        simp [k_check ht, k_bad3 hd hw]
      exact ⟨erD 3 d, fun S => by rw [e]; exact toldR_er (by decide) hrd, by unfold dueBW dueW; rw [hb, hw]; exact fit_er (by decide) hrd⟩
  | false =>
    have e : ∀ S, callIn false m_keeps [.val b, .val d] S = .exc ⟨2, ["given"], [b]⟩ S := fun S => by
      refine call_exc (ds := [b, d]) (S1 := []) rfl ?_ false
      unfold m_keeps b_keeps runF
      simp [k_bad h hb]
    exact ⟨erD 2 b, fun S => by rw [e]; exact toldR_er (by decide) hr, by unfold dueBW; rw [hb]; exact fit_er (by decide) hr⟩
theorem ok_out (t : List Nat) (n : Nat) (w : Str) : dOk (outD t n w) = true ∧ dDep (outD t n w) ≤ 55 := by
  unfold outD
  split
  · exact ⟨rfl, by show 0 ≤ 55; decide⟩
  · rename_i r _
    obtain ⟨o1, o2⟩ := okL_tupN r
    exact ⟨o1, by show dDepL _ + 1 ≤ 55; omega⟩
theorem t_leads (h : tyB b = true) (hr : rpB b = true) (hd : tyB d = true) (hrd : rpB d = true) : ∃ x, (∀ S, toldR t_law (callIn false m_leads_out [.val b, .val d] S) = .ok (.val x) S) ∧ FitD x (dueBW b d) := by
  cases hb : isTb b with
  | true =>
    obtain ⟨t, n, ht, rfl⟩ := isTb_ok hb
    cases hw : wdB d with
    | true =>
      obtain ⟨w, hw2, rfl⟩ := wd_ok hw
      have e : ∀ S, callIn false m_leads_out [.val (.str (tx t)), .val (wD w)] S = .ok (.val (outD t n w)) S := fun S => call_vb (ds := [.str (tx t), wD w]) (S1 := []) rfl (c_leads_out ht hw2 []) false
      exact ⟨.lst [.str "told", outD t n w], fun S => by rw [e]; rfl, by unfold dueBW dueW; rw [hb, hw]; exact fit_val (ok_out t n w).1 (ok_out t n w).2⟩
    | false =>
      have e : ∀ S, callIn false m_leads_out [.val (.str (tx t)), .val d] S = .exc ⟨3, ["given"], [d]⟩ S := fun S => by
        refine call_exc (ds := [.str (tx t), d]) (S1 := []) rfl ?_ false
        unfold m_leads_out b_leads_out runF
        simp [k_check ht, k_bad3 hd hw]
      exact ⟨erD 3 d, fun S => by rw [e]; exact toldR_er (by decide) hrd, by unfold dueBW dueW; rw [hb, hw]; exact fit_er (by decide) hrd⟩
  | false =>
    have e : ∀ S, callIn false m_leads_out [.val b, .val d] S = .exc ⟨2, ["given"], [b]⟩ S := fun S => by
      refine call_exc (ds := [b, d]) (S1 := []) rfl ?_ false
      unfold m_leads_out b_leads_out runF
      simp [k_bad h hb]
    exact ⟨erD 2 b, fun S => by rw [e]; exact toldR_er (by decide) hr, by unfold dueBW; rw [hb]; exact fit_er (by decide) hr⟩
theorem t_kept (h : tyB b = true) (hr : rpB b = true) : ∃ x, (∀ S, toldR t_law (callIn false m_kept_by [.val b] S) = .ok (.val x) S) ∧ FitD x (dueB b) := by
  cases hb : isTb b with
  | true =>
    obtain ⟨t, n, ht, rfl⟩ := isTb_ok hb
    have e : ∀ S, callIn false m_kept_by [.val (.str (tx t))] S = .ok (.val (.tup ((wordsN t n).map wD))) S := fun S => call_vb (ds := [.str (tx t)]) (S1 := []) rfl (c_kept_by ht []) false
    obtain ⟨o1, o2⟩ := okL_wd (wordsN t n) fun w hw => (List.mem_filter.mp hw).1
    exact ⟨.lst [.str "told", .tup ((wordsN t n).map wD)], fun S => by rw [e]; rfl, by unfold dueB; rw [hb]; exact fit_val o1 (by show dDepL _ + 1 ≤ 55; rw [o2]; decide)⟩
  | false =>
    have e : ∀ S, callIn false m_kept_by [.val b] S = .exc ⟨2, ["given"], [b]⟩ S := fun S => by
      refine call_exc (ds := [b]) (S1 := []) rfl ?_ false
      unfold m_kept_by b_kept_by runF
      simp [k_bad h hb]
    exact ⟨erD 2 b, fun S => by rw [e]; exact toldR_er (by decide) hr, by unfold dueB; rw [hb]; exact fit_er (by decide) hr⟩
end
end T3
namespace T3
open PySem PySem.Spec PyProof.Rows L2
variable {s t : List Nat} {n : Nat} {w : Str}
noncomputable def cSz07 : CE := cBin (fAdd true) (cI 1) (cCall 2 false m__law_draw (cCons (cV 0) (cCons (cI 2) (cNil))))
noncomputable def cMenB07 : CE := cLst true (cCons (cV 2) (cCons (cV 2) (cCons (cV 2) (cCons (cBin (fAdd true) (cV 2) (cS "0")) (cCons (cSl true (cV 2) (some (cI 1)) none) (cCons (cBin (fAdd true) (cSl true (cV 2) none (some (cUn fNeg (cI 1)))) (cS "3")) (cCons (cB1 (fList2 true) (cCons (cV 2) (cNil))) (cCons (cCall 1 false m__law_odd (cCons (cV 0) (cNil))) (cNil)))))))))
noncomputable def cMen407 : CE := cLst true (cCons (cS "set") (cCons (cS "set 3") (cCons (cS "set 012") (cCons (cS "set 10") (cCons (cS "Set 0") (cCons (cS "turn ") (cCons (cS "chain") (cCons (cS "chain 3") (cCons (cS "centre 01") (cCons (cS "part 01") (cCons (cN) (cNil))))))))))))
noncomputable def cMenW07 : CE := cBin (fAdd true) (cBin (fAdd true) (cCall0 false m__law_all_words) (cV 4)) (cLst true (cCons (cCall 1 false m__law_odd (cCons (cV 0) (cNil))) (cCons (cTup (cCons (cS "turn") (cNil))) (cCons (cI 0) (cCons (cB true) (cNil))))))
noncomputable def cMenO07 : CE := cLst true (cCons (cTup (cCons (cI 0) (cCons (cI 1) (cCons (cI 2) (cNil))))) (cCons (cTup (cCons (cI 2) (cCons (cI 1) (cCons (cI 0) (cNil))))) (cCons (cTup (cCons (cI 0) (cCons (cI 1) (cNil)))) (cCons (cTup (cCons (cI 0) (cCons (cI 1) (cCons (cI 1) (cNil))))) (cCons (cLst true (cCons (cI 0) (cCons (cI 1) (cCons (cI 2) (cNil))))) (cCons (cTup (cCons (cI 0) (cCons (cI 1) (cCons (cB true) (cNil))))) (cCons (cN) (cNil))))))))
noncomputable def cTb07 : CE := cAnd (cIsi "str" (cV 3)) (cAnd (cBin fIn (cB1 (fLen) (cCons (cV 3) (cNil))) (cLst true (cCons (cI 3) (cCons (cI 9) (cCons (cI 27) (cNil)))))) (cB1 (fAll) (cCons (cLcV true [14] (cV 3) (tgName 14) (cYes) (cBin fIn (cV 14) (cS "012"))) (cNil))))
noncomputable def cWd07 : CE := cAnd (cIsi "str" (cV 5)) (cBin fIn (cV 5) (cCall0 false m__law_all_words))
noncomputable def cO107 : CE := cAnd (cIsi "tuple" (cV 6)) (cB1 (fAll) (cCons (cLcV true [15] (cV 6) (tgName 15) (cYes) (cCall 3 false m__law_is_whole (cCons (cV 15) (cCons (cI 0) (cCons (cI 2) (cNil)))))) (cNil)))
noncomputable def cO207 : CE := cAnd (cV 9) (cBin fEq (cB1 (fSortD2) (cCons (cV 6) (cNil))) (cLst true (cCons (cI 0) (cCons (cI 1) (cCons (cI 2) (cNil))))))
noncomputable def cTo307 : CE := cLc false [13] (ciV (cLst true (cCons (cK (defD 2000)) (cCons (cK (defD 2001)) (cCons (cK (defD 2002)) (cNil)))))) (tgName 13) (cYes) (cTold t_law (cCallV tbl_1 1 false (cV 13) (cCons (cV 5) (cNil))))
noncomputable def cTo207 : CE := cBin (fAdd false) (cV 10) (cLc true [13] (ciV (cLst true (cCons (cK (defD 2003)) (cCons (cK (defD 2004)) (cNil))))) (tgName 13) (cYes) (cTold t_law (cCallV tbl_2 2 false (cV 13) (cCons (cV 3) (cCons (cV 5) (cNil))))))
noncomputable def sLoop07 : CS := sFor (ciR1 (cI 7)) (tgName 12) (sIf (cAnd (cBin fNe (cBin fIx (cV 10) (cV 12)) (cBin fIx (cV 11) (cV 12))) (cOr (cBin fNe (cBin fIx (cV 11) (cV 12)) (cLst true (cNil))) (cBin fNe (cBin fIx (cBin fIx (cV 10) (cV 12)) (cI 0)) (cS "told")))) (sRet (cB false)) (sNil))
theorem b07 : b__law_right = sSeq (sFor (ciR1 (cI 5)) (tgName 1) (sSeq (sAsg (tgName 2) (cCall 2 false m__law_table (cCons (cV 0) (cCons cSz07 (cNil))))) (sSeq (sAsg (tgName 3) (cCall 2 false m__law_of (cCons (cV 0) (cCons cMenB07 (cNil))))) (sSeq (sAsg (tgName 4) cMen407) (sSeq (sAsg (tgName 5) (cCall 2 false m__law_of (cCons (cV 0) (cCons cMenW07 (cNil))))) (sSeq (sAsg (tgName 6) (cCall 2 false m__law_of (cCons (cV 0) (cCons cMenO07 (cNil))))) (sSeq (sAsg (tgName 7) cTb07) (sSeq (sAsg (tgName 7) (cCall 3 false m__law_wrong (cCons (cV 7) (cCons (cS "InvalidTable") (cCons (cV 3) (cNil)))))) (sSeq (sAsg (tgName 8) (cCall 3 false m__law_wrong (cCons cWd07 (cCons (cS "InvalidWord") (cCons (cV 5) (cNil)))))) (sSeq (sAsg (tgName 9) cO107) (sSeq (sAsg (tgName 9) cO207) (sSeq (sAsg (tgName 9) (cCall 3 false m__law_wrong (cCons (cV 9) (cCons (cS "InvalidOrder") (cCons (cV 6) (cNil)))))) (sSeq (sAsg (tgName 10) cTo307) (sSeq (sAsg (tgName 10) cTo207) (sSeq (sExp (cMt tyL fAppend (cV 10) (cCons (cTold t_law (cCall 1 false m_kept_by (cCons (cV 3) (cNil)))) cNil))) (sSeq (sExp (cMt tyL fAppend (cV 10) (cCons (cTold t_law (cCall 2 false m_renamed_word (cCons (cV 5) (cCons (cV 6) (cNil))))) cNil))) (sSeq (sAsg (tgName 11) (cBin (fAdd true) (cBin (fAdd true) (cBin (fMul true) (cLst true (cCons (cV 8) (cNil))) (cI 3)) (cBin (fMul true) (cLst true (cCons (cCall 1 false m__law_first (cCons (cLst true (cCons (cV 7) (cCons (cV 8) (cNil)))) (cNil))) (cNil))) (cI 2))) (cLst true (cCons (cV 7) (cCons (cCall 1 false m__law_first (cCons (cLst true (cCons (cV 8) (cCons (cV 9) (cNil)))) (cNil))) (cNil)))))) sLoop07))))))))))))))))) (sRet (cB true)) := rfl
noncomputable def ord07 : List D := [tupN [0, 1, 2], tupN [2, 1, 0], tupN [0, 1], tupN [0, 1, 1], .lst [.int 0, .int 1, .int 2], .tup [.int 0, .int 1, .bl true], .non]
noncomputable def cOs (d : D) (b : Option A) : Slots := [none, none, none, none, none, none, some (.val d), none, none, b, none, none, none, none, none, none]
variable {z0 z1 z2 z3 z4 z5 z6 z7 z8 z9 z10 z11 z12 z13 z14 z15 : Option A}
noncomputable def ordOk7 (d : D) : Prop := ∃ w1 w2, (∀ z0 z1 z2 z3 z4 z5 z7 z8 z9 z10 z11 z12 z13 z14 z15 S, cO107 [z0, z1, z2, z3, z4, z5, some (.val d), z7, z8, z9, z10, z11, z12, z13, z14, z15] S = .ok (.val (.bl w1)) S) ∧
  (∀ z0 z1 z2 z3 z4 z5 z7 z8 z10 z11 z12 z13 z14 z15 S, cO207 [z0, z1, z2, z3, z4, z5, some (.val d), z7, z8, some (.val (.bl w1)), z10, z11, z12, z13, z14, z15] S = .ok (.val (.bl w2)) S) ∧
  ((w2 = true ∧ ∃ c ∈ [[0, 1, 2], [2, 1, 0]], d = tupN c) ∨ (w2 = false ∧ m_check_order [.val (nD 3), .val d] [] = .exc ⟨6, ["given"], [d]⟩ []))
theorem ord_all7 {d : D} (hd : d ∈ ord07) : ordOk7 d := by
  unfold ord07 at hd
  simp only [List.mem_cons, List.not_mem_nil, or_false] at hd
  rcases hd with rfl | rfl | rfl | rfl | rfl | rfl | rfl
  · exact ⟨true, true, fun _ _ _ _ _ _ _ _ _ _ _ _ _ _ _ _ => by kernel_rfl, fun _ _ _ _ _ _ _ _ _ _ _ _ _ _ _ => by kernel_rfl, .inl ⟨rfl, [0, 1, 2], by decide, rfl⟩⟩
  · exact ⟨true, true, fun _ _ _ _ _ _ _ _ _ _ _ _ _ _ _ _ => by kernel_rfl, fun _ _ _ _ _ _ _ _ _ _ _ _ _ _ _ => by kernel_rfl, .inl ⟨rfl, [2, 1, 0], by decide, rfl⟩⟩
  · exact ⟨true, false, fun _ _ _ _ _ _ _ _ _ _ _ _ _ _ _ _ => by kernel_rfl, fun _ _ _ _ _ _ _ _ _ _ _ _ _ _ _ => by kernel_rfl, .inr ⟨rfl, by kernel_rfl⟩⟩
  · exact ⟨true, false, fun _ _ _ _ _ _ _ _ _ _ _ _ _ _ _ _ => by kernel_rfl, fun _ _ _ _ _ _ _ _ _ _ _ _ _ _ _ => by kernel_rfl, .inr ⟨rfl, by kernel_rfl⟩⟩
  · exact ⟨false, false, fun _ _ _ _ _ _ _ _ _ _ _ _ _ _ _ _ => by kernel_rfl, fun _ _ _ _ _ _ _ _ _ _ _ _ _ _ _ => by kernel_rfl, .inr ⟨rfl, by kernel_rfl⟩⟩
  · exact ⟨false, false, fun _ _ _ _ _ _ _ _ _ _ _ _ _ _ _ _ => by kernel_rfl, fun _ _ _ _ _ _ _ _ _ _ _ _ _ _ _ => by kernel_rfl, .inr ⟨rfl, by kernel_rfl⟩⟩
  · exact ⟨false, false, fun _ _ _ _ _ _ _ _ _ _ _ _ _ _ _ _ => by kernel_rfl, fun _ _ _ _ _ _ _ _ _ _ _ _ _ _ _ => by kernel_rfl, .inr ⟨rfl, by kernel_rfl⟩⟩
theorem ord_rp7 : ∀ d ∈ ord07, rpB d = true := by
  intro d hd
  unfold ord07 at hd
  simp only [List.mem_cons, List.not_mem_nil, or_false] at hd
  rcases hd with rfl | rfl | rfl | rfl | rfl | rfl | rfl <;> decide +kernel
noncomputable def rn7 (w : Str) (o : List Nat) : Str := (strOf (gives (m_renamed_word [.val (wD w), .val (tupN o)] []))).getD ""
theorem rn7_facts : ∀ w ∈ Wds, ∀ o ∈ [[0, 1, 2], [2, 1, 0]], ((strOf (gives (m_renamed_word [.val (wD w), .val (tupN o)] []))).isSome && PyData.strOk (rn7 w o)) = true := by decide +kernel
theorem k_rn7 (hw : w ∈ Wds) {o : List Nat} (ho : o ∈ [[0, 1, 2], [2, 1, 0]]) (S : Store) : callIn false m_renamed_word [.val (wD w), .val (tupN o)] S = .ok (.val (wD (rn7 w o))) S := by
  have h := rn7_facts w hw o ho
  rw [Bool.and_eq_true] at h
  refine call_val (ds := [wD w, tupN o]) rfl ?_
  cases e : strOf (gives (m_renamed_word [.val (wD w), .val (tupN o)] [])) with
  | none => rw [e] at h; cases h.1
  | some x =>
    rw [strOf_some e]
    unfold rn7
    rw [e]
    rfl
noncomputable def dueWO (d o : D) (b : Bool) : D := if wdB d then (if b then .lst [] else erD 6 o) else erD 3 d
theorem t_renw {d o : D} (h : tyB d = true) (hr : rpB d = true) (ho : o ∈ ord07) : ∃ w1 w2, (∀ z0 z1 z2 z3 z4 z5 z7 z8 z9 z10 z11 z12 z13 z14 z15 S, cO107 [z0, z1, z2, z3, z4, z5, some (.val o), z7, z8, z9, z10, z11, z12, z13, z14, z15] S = .ok (.val (.bl w1)) S) ∧
    (∀ z0 z1 z2 z3 z4 z5 z7 z8 z10 z11 z12 z13 z14 z15 S, cO207 [z0, z1, z2, z3, z4, z5, some (.val o), z7, z8, some (.val (.bl w1)), z10, z11, z12, z13, z14, z15] S = .ok (.val (.bl w2)) S) ∧
    ∃ x, (∀ S, toldR t_law (callIn false m_renamed_word [.val d, .val o] S) = .ok (.val x) S) ∧ FitD x (dueWO d o w2) := by
  obtain ⟨w1, w2, a1, a2, hc⟩ := ord_all7 ho
  have hro := ord_rp7 o ho
  refine ⟨w1, w2, a1, a2, ?_⟩
  cases hb : wdB d with
  | true =>
    obtain ⟨w, hw, rfl⟩ := wd_ok hb
    rcases hc with ⟨rfl, c, hc, rfl⟩ | ⟨rfl, ex⟩
    · have e := fun S => k_rn7 hw hc S
      have hf := rn7_facts w hw c hc
      rw [Bool.and_eq_true] at hf
      exact ⟨.lst [.str "told", wD (rn7 w c)], fun S => by rw [e]; rfl, by unfold dueWO; rw [hb]; exact fit_val hf.2 (by show 0 ≤ 55; decide)⟩
    · have e : ∀ S, callIn false m_renamed_word [.val (wD w), .val o] S = .exc ⟨6, ["given"], [o]⟩ S := fun S => by
        refine call_exc (ds := [wD w, o]) (S1 := []) rfl ?_ false
        have ex' : ∀ S, callIn false m_check_order [.val (.int 3), .val o] S = .exc ⟨6, ["given"], [o]⟩ S := fun S => call_exc (ds := [nD 3, o]) (S1 := []) rfl ex false
        unfold m_renamed_word b_renamed_word runF
        simp [k_check_word hw, ex']
      exact ⟨erD 6 o, fun S => by rw [e]; exact toldR_er (by decide) hro, by unfold dueWO; rw [hb]; exact fit_er (by decide) hro⟩
  | false =>
    have e : ∀ S, callIn false m_renamed_word [.val d, .val o] S = .exc ⟨3, ["given"], [d]⟩ S := fun S => by
      refine call_exc (ds := [d, o]) (S1 := []) rfl ?_ false
      unfold m_renamed_word b_renamed_word runF
      simp [k_bad3 h hb]
    exact ⟨erD 3 d, fun S => by rw [e]; exact toldR_er (by decide) hr, by unfold dueWO; rw [hb]; exact fit_er (by decide) hr⟩
end T3
namespace T3
open PySem PySem.Spec PyProof.Rows L2
variable {s t : List Nat} {n : Nat} {w : Str}
variable {z0 z1 z2 z3 z4 z5 z6 z7 z8 z9 z10 z11 z12 z13 z14 z15 : Option A}
theorem l_menB7 (h : Tb t n) (p q r : Int) (R : Store) : ∃ ds p' q' r', (∀ d ∈ ds, Bt d) ∧ 0 < ds.length ∧ ds.length ≤ 1000 ∧ cMenB07 [some (.ref 0), z1, some (.val (.str (tx t))), z3, z4, z5, z6, z7, z8, z9, z10, z11, z12, z13, z14, z15] (spr p q r :: R) = .ok (.val (.lst ds)) (spr p' q' r' :: R) := by
  obtain ⟨d, p', q', r', hd, e⟩ := k_odd (spr p q r :: R) 0 p q r rfl
  have hl := h.le
  have h3 : ∀ x ∈ t, x < 4 := fun x hx => by have := h.dg x hx; omega
  refine ⟨[.str (tx t), .str (tx t), .str (tx t), .str (tx (t ++ [0])), .str (tx (t.drop 1)), .str (tx (t.dropLast ++ [3])), .lst (t.map fun x => .str (sg x)), d], p', q', r', fun y hy => ?_, by simp, by simp, ?_⟩
  · simp only [List.mem_cons, List.not_mem_nil, or_false] at hy
    rcases hy with rfl | rfl | rfl | rfl | rfl | rfl | rfl | rfl
    · exact Bt.str h3 (by omega)
    · exact Bt.str h3 (by omega)
    · exact Bt.str h3 (by omega)
    · exact Bt.str (fun x hx => by rcases List.mem_append.mp hx with hx | hx; exact h3 x hx; simp at hx; omega) (by rw [List.length_append]; simp; omega)
    · exact Bt.str (fun x hx => h3 x (List.mem_of_mem_drop hx)) (by rw [List.length_drop]; omega)
    · exact Bt.str (fun x hx => by rcases List.mem_append.mp hx with hx | hx; exact h3 x (List.dropLast_subset _ hx); simp at hx; omega) (by rw [List.length_append, List.length_dropLast]; simp; omega)
    · exact Bt.lst h.dg (by omega)
    · exact hd
  · have a1 : ("0" : Str) = sg 0 := by decide +kernel
    have a3 : ("3" : Str) = sg 3 := by decide +kernel
    have g1 : tx t ++ ("0" : Str) = tx (t ++ [0]) := by rw [a1]; exact SE.tx_snoc t 0
    have g3 : tx t.dropLast ++ ("3" : Str) = tx (t.dropLast ++ [3]) := by rw [a3]; exact SE.tx_snoc t.dropLast 3
    have y1 : szOk (tx t).length = true := szOk_le (by rw [tx_len]; omega)
    have y2 : szOk ((tx t).length + ("0" : Str).length) = true := szOk_le (by rw [tx_len]; show t.length + 1 ≤ 1000; omega)
    have y3 : szOk ((tx t.dropLast).length + ("3" : Str).length) = true := szOk_le (by rw [tx_len, List.length_dropLast]; show t.length - 1 + 1 ≤ 1000; omega)
    have y4 : szOk t.length = true := szOk_le (by omega)
    have c1 := cut1 t
    have c2 := cutm t
    have fa1 : ∀ S, fAdd true (.val (.str (tx t))) (.val (.str "0")) S = .ok (.val (.str (tx (t ++ [0])))) S := fun S => by
      show (if szOk ((tx t).length + ("0" : Str).length) then Res.ok (.val (.str (tx t ++ ("0" : Str)))) S else .bad) = _
      rw [y2, g1]
      rfl
    have fa4 : ∀ S, fAdd true (.val (.str (tx t.dropLast))) (.val (.str "3")) S = .ok (.val (.str (tx (t.dropLast ++ [3])))) S := fun S => by
      show (if szOk ((tx t.dropLast).length + ("3" : Str).length) then Res.ok (.val (.str (tx t.dropLast ++ ("3" : Str)))) S else .bad) = _
      rw [y3, g3]
      rfl
    have nn : ∀ S, fNeg (.val (.int 1)) S = .ok (.val (.int (-1))) S := fun S => rfl
    unfold cMenB07
    simp [fa1, fa4, nn, y1, c1, c2, e, signs_tx, y4]
noncomputable def said7 : List D := [.str "set", .str "set 3", .str "set 012", .str "set 10", .str "Set 0", .str "turn ", .str "chain", .str "chain 3", .str "centre 01", .str "part 01", .non]
theorem said_ok : ((Wds.map wD ++ said7) ++ [D.tup [.str "turn"], D.int 0, D.bl true]).all (fun d => tyB d && rpB d) = true := by decide +kernel
theorem l_men4 (S : Store) : cMen407 [z0, z1, z2, z3, z4, z5, z6, z7, z8, z9, z10, z11, z12, z13, z14, z15] S = .ok (.val (.lst said7)) S := by
  unfold cMen407
  simp
  rfl
theorem l_menW (p q r : Int) (R : Store) : ∃ ds p' q' r', (∀ d ∈ ds, Bt d) ∧ 0 < ds.length ∧ ds.length ≤ 1000 ∧ cMenW07 [some (.ref 0), z1, z2, z3, some (.val (.lst said7)), z5, z6, z7, z8, z9, z10, z11, z12, z13, z14, z15] (spr p q r :: R) = .ok (.val (.lst ds)) (spr p' q' r' :: R) := by
  obtain ⟨d, p', q', r', hd, e⟩ := k_odd (spr p q r :: R) 0 p q r rfl
  have hb : ∀ y ∈ (Wds.map wD ++ said7) ++ [D.tup [.str "turn"], .int 0, .bl true], Bt y := fun y hy => by
    have := List.all_eq_true.mp said_ok y hy
    rw [Bool.and_eq_true] at this
    exact ⟨this.1, this.2⟩
  refine ⟨(Wds.map wD ++ said7) ++ [d, .tup [.str "turn"], .int 0, .bl true], p', q', r', fun y hy => ?_, by show 0 < ((Wds.map wD ++ said7) ++ [D.non, .non, .non, .non]).length; decide, by show ((Wds.map wD ++ said7) ++ [D.non, .non, .non, .non]).length ≤ 1000; decide, ?_⟩
  · rcases List.mem_append.mp hy with hy | hy
    · exact hb y (List.mem_append_left _ hy)
    · rcases List.mem_cons.mp hy with rfl | hy
      · exact hd
      · exact hb y (List.mem_append_right _ hy)
  · have w0 := fun S => k_all_words S
    have f1 : ∀ S, fAdd true (.val (.lst (Wds.map wD))) (.val (.lst said7)) S = .ok (.val (.lst (Wds.map wD ++ said7))) S := fun S => by kernel_rfl
    have f2 : ∀ d S, fAdd true (.val (.lst (Wds.map wD ++ said7))) (.val (.lst [d, .tup [.str "turn"], .int 0, .bl true])) S = .ok (.val (.lst ((Wds.map wD ++ said7) ++ [d, .tup [.str "turn"], .int 0, .bl true]))) S := fun d S => by kernel_rfl
    generalize hW : Wds.map wD = W at *
    generalize hV : W ++ said7 = V at *
    unfold cMenW07
    simp [w0, f1, f2, e]
theorem l_menO7 (S : Store) : cMenO07 [z0, z1, z2, z3, z4, z5, z6, z7, z8, z9, z10, z11, z12, z13, z14, z15] S = .ok (.val (.lst ord07)) S := by
  unfold cMenO07
  simp
  rfl
theorem l_tb7 {d : D} (hb : Bt d) (S : Store) : cTb07 [z0, z1, z2, some (.val d), z4, z5, z6, z7, z8, z9, z10, z11, z12, z13, z14, z15] S = .ok (.val (.bl (isTb d))) S := by
  have h := hb.ty
  unfold cTb07
  cases d with
  | ins _ _ _ => cases h
  | wt _ => cases h
  | str x =>
    have hx : x.length ≤ 1000 := of_decide_eq_true h
    have z0 : szOk x.length = true := szOk_le hx
    cases hl : l3 x.length with
    | true =>
      have key : ∀ (ρ : Slots) (S : Store), ρ.length = 16 → lcGo (elm (tgName 14) cYes (cBin fIn (cV 14) (cS "012")) ρ) (signsD x) S = some (x.cps.toList.map fun c => D.bl (sgnB c), S) := fun ρ S hρ => by
        rw [signs_any]
        exact lcGo_on fun c hc => by
          have e14 : (ρ.set 14 (some (.val (.str ⟨#[c]⟩))))[14]? = some (some (.val (.str ⟨#[c]⟩))) := by rw [List.getElem?_set_self (by omega)]
          simp [e14, in_sgn]
      have z1 : szOk x.cps.size = true := szOk_le hx
      have ha := fun S => all_bools sgnB x.cps.toList S
      simp [tyD, subT, isTb, isTs, lens_in, z0, hl, key, z1, ha]
    | false => simp [tyD, subT, isTb, isTs, lens_in, z0, hl]
  | _ => simp [tyD, subT, isTb]
theorem l_wd7 {d : D} (hb : Bt d) (S : Store) : cWd07 [z0, z1, z2, z3, z4, some (.val d), z6, z7, z8, z9, z10, z11, z12, z13, z14, z15] S = .ok (.val (.bl (wdB d))) S := by
  have h := hb.ty
  have w0 := fun S => k_all_words S
  have w1 := fun x S => in_wordsL x S
  unfold cWd07
  cases d with
  | ins _ _ _ => cases h
  | wt _ => cases h
  | str x =>
    simp [tyD, subT, wdB, w0, w1, -List.map_cons]
  | _ => simp [tyD, subT, wdB]
theorem l_to3 {d : D} (hd : Bt d) : ∃ x1 x2 x3, FitD x1 (dueW d) ∧ FitD x2 (dueW d) ∧ FitD x3 (dueW d) ∧
    ∀ z0 z1 z2 z3 z4 z6 z7 z8 z9 z10 z11 z12 z13 z14 z15 S, cTo307 [z0, z1, z2, z3, z4, some (.val d), z6, z7, z8, z9, z10, z11, z12, z13, z14, z15] S = .ok (.ref S.length) (S ++ [.lst [x1, x2, x3]]) := by
  obtain ⟨x1, e1, f1⟩ := t_keepers hd.ty hd.rp
  obtain ⟨x2, e2, f2⟩ := t_least hd.ty hd.rp
  obtain ⟨x3, e3, f3⟩ := t_relation hd.ty hd.rp
  refine ⟨x1, x2, x3, f1, f2, f3, fun z0 z1 z2 z3 z4 z6 z7 z8 z9 z10 z11 z12 z13 z14 z15 S => ?_⟩
  have y : szOk 3 = true := szOk_le (by decide)
  unfold cTo307
  simp [lcGo, defD, tbl_1, e1, e2, e3, y]
theorem l_to2 {b d : D} (hb : Bt b) (hd : Bt d) (x1 x2 x3 : D) : ∃ x4 x5, FitD x4 (dueBW b d) ∧ FitD x5 (dueBW b d) ∧
    ∀ z0 z1 z2 z4 z6 z7 z8 z9 z11 z12 z13 z14 z15 o R, cTo207 [z0, z1, z2, some (.val b), z4, some (.val d), z6, z7, z8, z9, some (.ref (R.length + 1)), z11, z12, z13, z14, z15] (o :: (R ++ [.lst [x1, x2, x3]])) = .ok (.ref (R.length + 1 + 1)) (o :: (R ++ [.lst [x1, x2, x3], .lst [x1, x2, x3, x4, x5]])) := by
  obtain ⟨x4, e4, f4⟩ := t_keeps hb.ty hb.rp hd.ty hd.rp
  obtain ⟨x5, e5, f5⟩ := t_leads hb.ty hb.rp hd.ty hd.rp
  refine ⟨x4, x5, f4, f5, fun z0 z1 z2 z4 z6 z7 z8 z9 z11 z12 z13 z14 z15 o R => ?_⟩
  have y : szOk 2 = true := szOk_le (by decide)
  have hadd : fAdd false (.ref (R.length + 1)) (.val (.lst [x4, x5])) (o :: (R ++ [.lst [x1, x2, x3]])) = .ok (.ref (R.length + 1 + 1)) (o :: (R ++ [.lst [x1, x2, x3], .lst [x1, x2, x3, x4, x5]])) := by
    have g : (o :: (R ++ [O.lst [x1, x2, x3]]))[R.length + 1]? = some (.lst [x1, x2, x3]) := by simp
    unfold fAdd asM
    simp only [g]
    simp [asL, mkL, szOk]
  unfold cTo207
  simp [lcGo, defD, tbl_2, e4, e5, y, hadd]
end T3
namespace T3
open PySem PySem.Spec PyProof.Rows L2
variable {s t : List Nat} {n : Nat} {w : Str}
variable {z0 z1 z2 z3 z4 z5 z6 z7 z8 z9 z10 z11 z12 z13 z14 z15 : Option A}
theorem app2 (o : O) (R : Store) (y : O) (xs : List D) (d : D) (hx : xs.length ≤ 1000) : fAppend (.ref (R.length + 1 + 1)) [.val d] (o :: (R ++ [y, .lst xs])) = .ok (.val .non) (o :: (R ++ [y, .lst (xs ++ [d])])) := by
  have e : (o :: (R ++ [y, O.lst xs]))[R.length + 1 + 1]? = some (.lst xs) := by simp
  unfold fAppend
  simp only [e, szOk_le hx, if_true]
  simp
/-- the judgement of one -/
theorem fit_ne {x y : D} (h : FitD x y) (S : Store) : (fNe (.val x) (.val y) S = .ok (.val (.bl false)) S) ∨ (fNe (.val x) (.val y) S = .ok (.val (.bl true)) S ∧ fNe (.val y) (.val (.lst [])) S = .ok (.val (.bl false)) S ∧ fIx (.val x) (.val (.int 0)) S = .ok (.val (.str "told")) S) := by
  rcases h with ⟨i, d, hi, hd, rfl, rfl⟩ | ⟨rfl, v, rfl, h1, h2⟩
  · left
    have e := er_shp hi hd
    show (if (shp (erD i d) && shp (erD i d)) = true then Res.ok (.val (.bl (!dEq (erD i d) (erD i d)))) S else .bad) = _
    rw [e]
    have : dEq (erD i d) (erD i d) = true := by simp [erD, dEq, dEqL]
    rw [this]
    rfl
  · right
    refine ⟨?_, rfl, by simp⟩
    have ht : PyData.strOk ("told" : Str) = true := by decide +kernel
    have e : shp (.lst [.str "told", v]) = true := by
      unfold shp
      have ho : dOk (.lst [.str "told", v]) = true := by
        show (PyData.strOk ("told" : Str) && (dOk v && true)) = true
        rw [ht, h1]
        rfl
      rw [ho]
      have hdp : dDep (.lst [.str "told", v]) ≤ 60 := by
        show max 0 (max (dDep v) 0) + 1 ≤ 60
        omega
      exact decide_eq_true hdp
    show (if (shp (.lst [.str "told", v]) && shp (.lst [])) = true then Res.ok (.val (.bl (!dEq (.lst [.str "told", v]) (.lst [])))) S else .bad) = _
    rw [e]
    rfl
theorem l_loop7 {ts ds : List D} (ht : ts.length = 7) (hd : ds.length = 7) (hf : ∀ (k : Nat) (x y : D), ts[k]? = some x → ds[k]? = some y → FitD x y) (o u : O) (R : Store) : ∃ z, sLoop07 [z0, z1, z2, z3, z4, z5, z6, z7, z8, z9, some (.ref (R.length + 1 + 1)), some (.val (.lst ds)), z12, z13, z14, z15] (o :: (R ++ [u, .lst ts])) = .nx [z0, z1, z2, z3, z4, z5, z6, z7, z8, z9, some (.ref (R.length + 1 + 1)), some (.val (.lst ds)), z, z13, z14, z15] (o :: (R ++ [u, .lst ts])) := by
  unfold sLoop07
  simp
  generalize hq : forL _ _ _ _ = qq
  obtain ⟨ρ', S', rfl, ⟨z, rfl⟩, rfl⟩ := forL_q hq (fun i ρ S => (∃ z, ρ = [z0, z1, z2, z3, z4, z5, z6, z7, z8, z9, some (.ref (R.length + 1 + 1)), some (.val (.lst ds)), z, z13, z14, z15]) ∧ S = o :: (R ++ [u, .lst ts])) ⟨⟨_, rfl⟩, rfl⟩ (by
    rintro i d ρ S hi ⟨⟨z, rfl⟩, rfl⟩
    have hi9 : i < 7 := by
      have := (List.getElem?_eq_some_iff.mp hi).1
      simpa [rangeD] using this
    have hdi : d = .int (i : Nat) := by
      have := hi
      rw [range_nD, List.getElem?_map, List.getElem?_range hi9] at this
      injection this with this
      rw [← this]
      rfl
    subst hdi
    obtain ⟨x, hx⟩ : ∃ x, ts[i]? = some x := ⟨_, List.getElem?_eq_getElem (by omega)⟩
    obtain ⟨y, hy⟩ : ∃ y, ds[i]? = some y := ⟨_, List.getElem?_eq_getElem (by omega)⟩
    have g1 : (o :: (R ++ [u, O.lst ts]))[R.length + 1 + 1]? = some (.lst ts) := by simp
    have i1 : ixN ts.length (i : Int) = some i := ixN_nat (by omega)
    have i2 : ixN ds.length (i : Int) = some i := ixN_nat (by omega)
    have f1 : fIx (.ref (R.length + 1 + 1)) (.val (.int (i : Nat))) (o :: (R ++ [u, O.lst ts])) = .ok (.val x) (o :: (R ++ [u, O.lst ts])) := by
      unfold fIx
      simp [i1, hx]
    have f2 : fIx (.val (.lst ds)) (.val (.int (i : Nat))) (o :: (R ++ [u, O.lst ts])) = .ok (.val y) (o :: (R ++ [u, O.lst ts])) := by
      unfold fIx
      simp [i2, hy]
    refine ⟨_, _, ?_, ⟨some (.val (.int (i : Nat))), rfl⟩, rfl⟩
    rcases fit_ne (hf i x y hx hy) (o :: (R ++ [u, O.lst ts])) with e | ⟨e1, e2, e3⟩
    · simp [f1, f2, e]
    · have t0 : ∀ S, fNe (.val (.str "told")) (.val (.str "told")) S = .ok (.val (.bl false)) S := fun S => by rw [ne_str]; rfl
      simp [f1, f2, e1, e2, e3, t0])
  exact ⟨z, rfl⟩
end T3
namespace T3
open PySem PySem.Spec PyProof.Rows L2
variable {s t : List Nat} {n : Nat} {w : Str}
theorem isNil_er (i : Nat) (d : D) : isNilD (erD i d) = false := rfl
theorem dueBW_first {b d : D} : (if isNilD (dueB b) then dueW d else dueB b) = dueBW b d := by
  unfold dueBW dueB
  cases isTb b <;> rfl
theorem dueWO_first {d o : D} {w : Bool} : (if isNilD (dueW d) then (if w then D.lst [] else erD 6 o) else dueW d) = dueWO d o w := by
  unfold dueWO dueW
  cases wdB d <;> rfl
theorem if_due {w : Bool} {i : Nat} {d : D} (hi : i ∈ [2, 3, 6]) (h : rpB d = true) : DueD (if w then .lst [] else erD i d) := by
  cases w
  · exact .inr ⟨i, d, hi, h, rfl⟩
  · exact .inl rfl
theorem c_right07 (p q r : Int) : ∃ p' q' r' S', m__law_right [.ref 0] [spr p q r] = .ok (.val (.bl true)) (spr p' q' r' :: S') := by
  unfold m__law_right runF
  rw [b07]
  simp
  generalize hq : forL _ _ _ _ = qq
  obtain ⟨ρ', S', rfl, ⟨z1, z2, z3, z4, z5, z6, z7, z8, z9, z10, z11, z12, z13, z14, z15, rfl⟩, p', q', r', R, rfl⟩ := forL_q hq (fun i ρ S => (∃ z1 z2 z3 z4 z5 z6 z7 z8 z9 z10 z11 z12 z13 z14 z15, ρ = [some (.ref 0), z1, z2, z3, z4, z5, z6, z7, z8, z9, z10, z11, z12, z13, z14, z15]) ∧ ∃ p q r R, S = spr p q r :: R) ⟨⟨_, _, _, _, _, _, _, _, _, _, _, _, _, _, _, rfl⟩, _, _, _, [], rfl⟩ (by
    rintro i d ρ S hd ⟨⟨z1, z2, z3, z4, z5, z6, z7, z8, z9, z10, z11, z12, z13, z14, z15, rfl⟩, p, q, r, R, rfl⟩
    obtain ⟨k, p1, q1, r1, k0, k2, e1⟩ := k_draw (spr p q r :: R) 0 p q r 2 rfl (by decide) (by decide)
    obtain ⟨n, hn1, hn3, hk⟩ : ∃ n : Nat, 1 ≤ n ∧ n ≤ 3 ∧ 1 + k = (n : Nat) := ⟨(1 + k).toNat, by omega, by omega, by omega⟩
    have e1' : ∀ z1 z2 z3 z4 z5 z6 z7 z8 z9 z10 z11 z12 z13 z14 z15, cSz07 [some (.ref 0), z1, z2, z3, z4, z5, z6, z7, z8, z9, z10, z11, z12, z13, z14, z15] (spr p q r :: R) = .ok (.val (.int (n : Nat))) (spr p1 q1 r1 :: R) := fun z1 z2 z3 z4 z5 z6 z7 z8 z9 z10 z11 z12 z13 z14 z15 => by
      unfold cSz07
      simp [e1, hk]
    obtain ⟨t, p2, q2, r2, ht, e2⟩ := k_table (spr p1 q1 r1 :: R) 0 p1 q1 r1 n rfl hn1 hn3
    change callIn false m__law_table [.ref 0, .val (.int (n : Nat))] _ = _ at e2
    obtain ⟨mb, p3, q3, r3, hmb, mb0, mb1, e3⟩ := l_menB7 (z1 := some (.val d)) (z3 := z3) (z4 := z4) (z5 := z5) (z6 := z6) (z7 := z7) (z8 := z8) (z9 := z9) (z10 := z10) (z11 := z11) (z12 := z12) (z13 := z13) (z14 := z14) (z15 := z15) ht p2 q2 r2 R
    obtain ⟨b, hb, p4, q4, r4, e4⟩ := k_of (spr p3 q3 r3 :: R) 0 p3 q3 r3 mb rfl mb0 mb1
    have hb := hmb b hb
    have e5 := fun z0 z1 z2 z3 z4 z5 z6 z7 z8 z9 z10 z11 z12 z13 z14 z15 S => l_men4 (z0 := z0) (z1 := z1) (z2 := z2) (z3 := z3) (z4 := z4) (z5 := z5) (z6 := z6) (z7 := z7) (z8 := z8) (z9 := z9) (z10 := z10) (z11 := z11) (z12 := z12) (z13 := z13) (z14 := z14) (z15 := z15) S
    obtain ⟨mw, p5, q5, r5, hmw, mw0, mw1, e6⟩ := l_menW (z1 := some (.val d)) (z2 := some (.val (.str (tx t)))) (z3 := some (.val b)) (z5 := z5) (z6 := z6) (z7 := z7) (z8 := z8) (z9 := z9) (z10 := z10) (z11 := z11) (z12 := z12) (z13 := z13) (z14 := z14) (z15 := z15) p4 q4 r4 R
    obtain ⟨x, hx, p6, q6, r6, e7⟩ := k_of (spr p5 q5 r5 :: R) 0 p5 q5 r5 mw rfl mw0 mw1
    have hx := hmw x hx
    have e8 := fun z0 z1 z2 z3 z4 z5 z6 z7 z8 z9 z10 z11 z12 z13 z14 z15 S => l_menO7 (z0 := z0) (z1 := z1) (z2 := z2) (z3 := z3) (z4 := z4) (z5 := z5) (z6 := z6) (z7 := z7) (z8 := z8) (z9 := z9) (z10 := z10) (z11 := z11) (z12 := z12) (z13 := z13) (z14 := z14) (z15 := z15) S
    obtain ⟨o, ho, p7, q7, r7, e9⟩ := k_of (spr p6 q6 r6 :: R) 0 p6 q6 r6 ord07 rfl (by simp [ord07]) (by simp [ord07])
    have or' := ord_rp7 o ho
    have e10 := fun z0 z1 z2 z4 z5 z6 z7 z8 z9 z10 z11 z12 z13 z14 z15 S => l_tb7 (z0 := z0) (z1 := z1) (z2 := z2) (z4 := z4) (z5 := z5) (z6 := z6) (z7 := z7) (z8 := z8) (z9 := z9) (z10 := z10) (z11 := z11) (z12 := z12) (z13 := z13) (z14 := z14) (z15 := z15) hb S
    have e11 := fun z0 z1 z2 z3 z4 z6 z7 z8 z9 z10 z11 z12 z13 z14 z15 S => l_wd7 (z0 := z0) (z1 := z1) (z2 := z2) (z3 := z3) (z4 := z4) (z6 := z6) (z7 := z7) (z8 := z8) (z9 := z9) (z10 := z10) (z11 := z11) (z12 := z12) (z13 := z13) (z14 := z14) (z15 := z15) hx S
    have e12 : ∀ S, callIn false m__law_wrong [.val (.bl (isTb b)), .val (.str "InvalidTable"), .val b] S = .ok (.val (dueB b)) S := fun S => k_wrong (i := 2) hb.rp (isTb b) S
    have e13 : ∀ S, callIn false m__law_wrong [.val (.bl (wdB x)), .val (.str "InvalidWord"), .val x] S = .ok (.val (dueW x)) S := fun S => k_wrong (i := 3) hx.rp (wdB x) S
    obtain ⟨w1, w2, e14, e15, x7, e16, g7⟩ := t_renw hx.ty hx.rp ho
    have e17 : ∀ w S, callIn false m__law_wrong [.val (.bl w), .val (.str "InvalidOrder"), .val o] S = .ok (.val (if w then .lst [] else erD 6 o)) S := fun w S => k_wrong (i := 6) or' w S
    obtain ⟨x1, x2, x3, g1, g2, g3, e18⟩ := l_to3 hx
    obtain ⟨x4, x5, g4, g5, e19⟩ := l_to2 hb hx x1 x2 x3
    obtain ⟨x6, e20, g6⟩ := t_kept hb.ty hb.rp
    have hdb := dueB_due hb.rp
    have hdw := dueW_due hx.rp
    have h20 : ∀ S, callIn false m__law_first [.val (.lst [dueB b, dueW x])] S = .ok (.val (dueBW b x)) S := fun S => by rw [k_first hdb hdw, dueBW_first]
    have h21 : ∀ w S, callIn false m__law_first [.val (.lst [dueW x, if w then .lst [] else erD 6 o])] S = .ok (.val (dueWO x o w)) S := fun w S => by rw [k_first hdw (if_due (by decide) or'), dueWO_first]
    have a1 := app2 (spr p7 q7 r7) R (.lst [x1, x2, x3]) [x1, x2, x3, x4, x5] x6 (by simp)
    have a2 := app2 (spr p7 q7 r7) R (.lst [x1, x2, x3]) [x1, x2, x3, x4, x5, x6] x7 (by simp)
    simp only [List.cons_append, List.nil_append] at a1 a2
    have m3 : ∀ S, fMul true (.val (.lst [dueW x])) (.val (.int 3)) S = .ok (.val (.lst [dueW x, dueW x, dueW x])) S := fun S => rfl
    have m2 : ∀ S, fMul true (.val (.lst [dueBW b x])) (.val (.int 2)) S = .ok (.val (.lst [dueBW b x, dueBW b x])) S := fun S => rfl
    have s1 : ∀ S, fAdd true (.val (.lst [dueW x, dueW x, dueW x])) (.val (.lst [dueBW b x, dueBW b x])) S = .ok (.val (.lst [dueW x, dueW x, dueW x, dueBW b x, dueBW b x])) S := fun S => rfl
    have s2 : ∀ (y z : D) S, fAdd true (.val (.lst [dueW x, dueW x, dueW x, dueBW b x, dueBW b x])) (.val (.lst [y, z])) S = .ok (.val (.lst [dueW x, dueW x, dueW x, dueBW b x, dueBW b x, y, z])) S := fun y z S => rfl
    have hloop := fun z0 z1 z2 z3 z4 z5 z6 z7 z8 z9 z12 z13 z14 z15 => l_loop7 (z0 := z0) (z1 := z1) (z2 := z2) (z3 := z3) (z4 := z4) (z5 := z5) (z6 := z6) (z7 := z7) (z8 := z8) (z9 := z9) (z12 := z12) (z13 := z13) (z14 := z14) (z15 := z15) (ts := [x1, x2, x3, x4, x5, x6, x7]) (ds := [dueW x, dueW x, dueW x, dueBW b x, dueBW b x, dueB b, dueWO x o w2]) rfl rfl (fun k x z hx hz => by
      match k, hx, hz with
      | 0, hx, hz => cases hx; cases hz; exact g1
      | 1, hx, hz => cases hx; cases hz; exact g2
      | 2, hx, hz => cases hx; cases hz; exact g3
      | 3, hx, hz => cases hx; cases hz; exact g4
      | 4, hx, hz => cases hx; cases hz; exact g5
      | 5, hx, hz => cases hx; cases hz; exact g6
      | 6, hx, hz => cases hx; cases hz; exact g7
      | k + 7, hx, _ => simp at hx) (spr p7 q7 r7) (.lst [x1, x2, x3]) R
    obtain ⟨z, ez⟩ := hloop (some (.ref 0)) (some (.val d)) (some (.val (.str (tx t)))) (some (.val b)) (some (.val (.lst said7))) (some (.val x)) (some (.val o)) (some (.val (dueB b))) (some (.val (dueW x))) (some (.val (if w2 then .lst [] else erD 6 o))) z12 z13 z14 z15
    simp [e1', e2, e3, e4, e5, e6, e7, e8, e9, e10, e11, e12, e13, e14, e15, e16, e17, e18, e19, e20, h20, h21, a1, a2, m3, m2, s1, s2, ez]
    exact ⟨_, _, ⟨rfl, rfl⟩, ⟨_, _, _, _, _, _, _, _, _, _, _, _, _, _, _, rfl⟩, _, _, _, _, rfl⟩)
  simp
theorem k_right07 (S : Store) (i : Nat) (p q r : Int) (hi : S[i]? = some (spr p q r)) : ∃ p' q' r', callIn false m__law_right [.ref i] S = .ok (.val (.bl true)) (S.set i (spr p' q' r')) := by
  obtain ⟨p', q', r', S', e⟩ := c_right07 p q r
  exact ⟨p', q', r', call_one1 hi rfl e rfl⟩
theorem L07_body (F3 : Fn) (hR : ∀ (S : Store) (i : Nat) (p q r : Int), S[i]? = some (spr p q r) → ∃ p' q' r', callIn false F3 [.ref i] S = .ok (.val (.bl true)) (S.set i (spr p' q' r')))
    (ns : List Int) (hl : ns.length ≤ 63) : ∃ S, runF 2 (sRet (cB1 (fAll) (cCons (cLc true [1] (ciR1 (cB1 (fMax2) (cCons (cI 2) (cCons (cB1 (fMin2) (cCons (cB1 (fLen) (cCons (cV 0) (cNil))) (cCons (cI 6) (cNil)))) (cNil))))) (tgName 1) (cYes) (cCall 1 false F3 (cCons (cCall 2 true m__law_spring (cCons (cV 0) (cCons (cV 1) (cNil)))) (cNil)))) (cNil)))) [.val (.ro (ns.map D.int))] [] = .ok (.val (.bl true)) S := by
  unfold runF
  obtain ⟨m, hm, em⟩ := runs_n ns 6 (by decide)
  have em' : (if 2 < (if (6 : Int) < (ns.length : Int) then (6 : Int) else (ns.length : Int)) then (if (6 : Int) < (ns.length : Int) then (6 : Int) else (ns.length : Int)) else 2) = (m : Int) := em
  simp
  rw [em']
  have g1 : (-1000000 : Int) ≤ (m : Int) := by omega
  have g2 : (m : Int) ≤ 1000000 := by omega
  have hz : m ≤ 16000000 := by omega
  have hb : boolsOf ((List.range m).map fun _ => D.bl true) = some ((List.range m).map fun _ => true) := boolsOf_map (fun _ => true) _
  have hc : ((List.range m).map fun _ => true).all id = true := by simp
  generalize hρ : [some (A.val (D.ro (ns.map D.int))), none] = ρ
  obtain ⟨S', e⟩ := lc_runs hR ns hl m (by omega) 1 (by decide) ρ (by rw [← hρ]; rfl) (by rw [← hρ]; simp) []
  simp [g1, g2, e, hz, hb, hc, -List.map_const]
theorem law_holds : LawSays m_law := by
  intro ns hl
  unfold m_law b_law
  exact L07_body m__law_right k_right07 ns hl
end T3
namespace T3
open PySem PySem.Spec PyProof.Rows L2
abbrev topS (i : Nat) : Stmt := PySem.Challenge.pw_threevalues_k07_relations_refused.main.body.getD i (.Pass ⟨0, 0, 0, 0⟩)
abbrev s__law_all_words : Stmt := topS 74
abbrev N__law_all_words : List Str := ["found"]
theorem sc__law_all_words : FnScope N__law_all_words [] (defScope s__law_all_words) := ⟨rfl, rfl, rfl, by decide +kernel, rfl, by decide +kernel, by decide +kernel⟩
abbrev s__law_draw : Stmt := topS 67
abbrev N__law_draw : List Str := ["spring", "size", "far", "mixed", "digit"]
theorem sc__law_draw : FnScope N__law_draw ["spring", "size"] (defScope s__law_draw) := ⟨rfl, rfl, rfl, by decide +kernel, rfl, by decide +kernel, by decide +kernel⟩
abbrev s__law_first : Stmt := topS 76
abbrev N__law_first : List Str := ["some", "each"]
theorem sc__law_first : FnScope N__law_first ["some"] (defScope s__law_first) := ⟨rfl, rfl, rfl, by decide +kernel, rfl, by decide +kernel, by decide +kernel⟩
abbrev s__law_is_whole : Stmt := topS 69
abbrev N__law_is_whole : List Str := ["thing", "least", "most"]
theorem sc__law_is_whole : FnScope N__law_is_whole ["thing", "least", "most"] (defScope s__law_is_whole) := ⟨rfl, rfl, rfl, by decide +kernel, rfl, by decide +kernel, by decide +kernel⟩
abbrev s__law_of : Stmt := topS 68
abbrev N__law_of : List Str := ["spring", "menu"]
theorem sc__law_of : FnScope N__law_of ["spring", "menu"] (defScope s__law_of) := ⟨rfl, rfl, rfl, by decide +kernel, rfl, by decide +kernel, by decide +kernel⟩
abbrev s__law_odd : Stmt := topS 73
abbrev N__law_odd : List Str := ["spring", "some"]
theorem sc__law_odd : FnScope N__law_odd ["spring"] (defScope s__law_odd) := ⟨rfl, rfl, rfl, by decide +kernel, rfl, by decide +kernel, by decide +kernel⟩
abbrev s__law_table : Stmt := topS 75
abbrev N__law_table : List Str := ["spring", "size", "known", "k"]
theorem sc__law_table : FnScope N__law_table ["spring", "size"] (defScope s__law_table) := ⟨rfl, rfl, rfl, by decide +kernel, rfl, by decide +kernel, by decide +kernel⟩
abbrev s__law_error : Stmt := topS 70
abbrev N__law_error : List Str := ["e", "fits_here", "words", "bases", "plain_ones", "at"]
theorem sc__law_error : FnScope N__law_error ["e"] (defScope s__law_error) := ⟨rfl, rfl, rfl, by decide +kernel, rfl, by decide +kernel, by decide +kernel⟩
abbrev s__law_field : Stmt := topS 71
abbrev N__law_field : List Str := ["e", "word_now"]
theorem sc__law_field : FnScope N__law_field ["e", "word_now"] (defScope s__law_field) := ⟨rfl, rfl, rfl, by decide +kernel, rfl, by decide +kernel, by decide +kernel⟩
abbrev s__law_told : Stmt := topS 72
theorem told_s : ToldS s__law_told := ⟨_, _, _, _, _, _, _, _, _, _, _, _, _, _, _, _, _, _, _, _, _, _, _, _, _, _, _, _, _, _, _, _, rfl, rfl⟩
abbrev s__law_wrong : Stmt := topS 77
abbrev N__law_wrong : List Str := ["is_right", "word_now", "thing"]
theorem sc__law_wrong : FnScope N__law_wrong ["is_right", "word_now", "thing"] (defScope s__law_wrong) := ⟨rfl, rfl, rfl, by decide +kernel, rfl, by decide +kernel, by decide +kernel⟩
abbrev s_is_word : Stmt := topS 43
abbrev N_is_word : List Str := ["value"]
theorem sc_is_word : FnScope N_is_word ["value"] (defScope s_is_word) := ⟨rfl, rfl, rfl, by decide +kernel, rfl, by decide +kernel, by decide +kernel⟩
abbrev s_check_word : Stmt := topS 44
abbrev N_check_word : List Str := ["word"]
theorem sc_check_word : FnScope N_check_word ["word"] (defScope s_check_word) := ⟨rfl, rfl, rfl, by decide +kernel, rfl, by decide +kernel, by decide +kernel⟩
abbrev s_all_arguments : Stmt := topS 37
abbrev N_all_arguments : List Str := ["count", "found", "turn", "some", "each"]
theorem sc_all_arguments : FnScope N_all_arguments ["count"] (defScope s_all_arguments) := ⟨rfl, rfl, rfl, by decide +kernel, rfl, by decide +kernel, by decide +kernel⟩
abbrev s_table_from : Stmt := topS 38
abbrev N_table_from : List Str := ["values", "each"]
theorem sc_table_from : FnScope N_table_from ["values"] (defScope s_table_from) := ⟨rfl, rfl, rfl, by decide +kernel, rfl, by decide +kernel, by decide +kernel⟩
abbrev s_all_tables : Stmt := topS 40
abbrev N_all_tables : List Str := ["some"]
theorem sc_all_tables : FnScope N_all_tables [] (defScope s_all_tables) := ⟨rfl, rfl, rfl, by decide +kernel, rfl, by decide +kernel, by decide +kernel⟩
abbrev s_all_rows : Stmt := topS 52
abbrev N_all_rows : List Str := ["some", "count", "first", "rest"]
abbrev s_chain_of : Stmt := topS 45
abbrev N_chain_of : List Str := ["middle", "others", "each"]
theorem sc_chain_of : FnScope N_chain_of ["middle"] (defScope s_chain_of) := ⟨rfl, rfl, rfl, by decide +kernel, rfl, by decide +kernel, by decide +kernel⟩
abbrev s_is_in_pairs : Stmt := topS 46
abbrev N_is_in_pairs : List Str := ["word", "pair", "chain", "first", "second", "kind", "told"]
theorem sc_is_in_pairs : FnScope N_is_in_pairs ["word", "pair"] (defScope s_is_in_pairs) := ⟨rfl, rfl, rfl, by decide +kernel, rfl, by decide +kernel, by decide +kernel⟩
abbrev s_is_in : Stmt := topS 47
abbrev N_is_in : List Str := ["word", "some"]
theorem sc_is_in : FnScope N_is_in ["word", "some"] (defScope s_is_in) := ⟨rfl, rfl, rfl, by decide +kernel, rfl, by decide +kernel, by decide +kernel⟩
abbrev s_index_of : Stmt := topS 35
abbrev N_index_of : List Str := ["arguments", "found", "each"]
theorem sc_index_of : FnScope N_index_of ["arguments"] (defScope s_index_of) := ⟨rfl, rfl, rfl, by decide +kernel, rfl, by decide +kernel, by decide +kernel⟩
abbrev s_value_at : Stmt := topS 36
abbrev N_value_at : List Str := ["table", "arguments"]
theorem sc_value_at : FnScope N_value_at ["table", "arguments"] (defScope s_value_at) := ⟨rfl, rfl, rfl, by decide +kernel, rfl, by decide +kernel, by decide +kernel⟩
abbrev s_made_by : Stmt := topS 51
abbrev N_made_by : List Str := ["table", "rows", "at", "row"]
theorem sc_made_by : FnScope N_made_by ["table", "rows"] (defScope s_made_by) := ⟨rfl, rfl, rfl, by decide +kernel, rfl, by decide +kernel, by decide +kernel⟩
abbrev s_size_of : Stmt := topS 31
abbrev N_size_of : List Str := ["count", "found", "turn"]
theorem sc_size_of : FnScope N_size_of ["count"] (defScope s_size_of) := ⟨rfl, rfl, rfl, by decide +kernel, rfl, by decide +kernel, by decide +kernel⟩
abbrev s_places_of : Stmt := topS 34
abbrev N_places_of : List Str := ["table", "count"]
theorem sc_places_of : FnScope N_places_of ["table"] (defScope s_places_of) := ⟨rfl, rfl, rfl, by decide +kernel, rfl, by decide +kernel, by decide +kernel⟩
abbrev s_length_of : Stmt := topS 48
abbrev N_length_of : List Str := ["word"]
theorem sc_length_of : FnScope N_length_of ["word"] (defScope s_length_of) := ⟨rfl, rfl, rfl, by decide +kernel, rfl, by decide +kernel, by decide +kernel⟩
abbrev s_relation_of : Stmt := topS 49
abbrev N_relation_of : List Str := ["word", "some"]
theorem sc_relation_of : FnScope N_relation_of ["word"] (defScope s_relation_of) := ⟨rfl, rfl, rfl, by decide +kernel, rfl, by decide +kernel, by decide +kernel⟩
abbrev s_out_of : Stmt := topS 53
abbrev N_out_of : List Str := ["table", "word", "some", "rows"]
theorem sc_out_of : FnScope N_out_of ["table", "word"] (defScope s_out_of) := ⟨rfl, rfl, rfl, by decide +kernel, rfl, by decide +kernel, by decide +kernel⟩
abbrev s_is_kept : Stmt := topS 54
abbrev N_is_kept : List Str := ["table", "word"]
theorem sc_is_kept : FnScope N_is_kept ["table", "word"] (defScope s_is_kept) := ⟨rfl, rfl, rfl, by decide +kernel, rfl, by decide +kernel, by decide +kernel⟩
abbrev s_keepers_of : Stmt := topS 59
abbrev N_keepers_of : List Str := ["word", "table"]
theorem sc_keepers_of : FnScope N_keepers_of ["word"] (defScope s_keepers_of) := ⟨rfl, rfl, rfl, by decide +kernel, rfl, by decide +kernel, by decide +kernel⟩
abbrev s_keepers : Stmt := topS 60
abbrev N_keepers : List Str := ["word"]
theorem sc_keepers : FnScope N_keepers ["word"] (defScope s_keepers) := ⟨rfl, rfl, rfl, by decide +kernel, rfl, by decide +kernel, by decide +kernel⟩
abbrev s_is_table : Stmt := topS 32
abbrev N_is_table : List Str := ["value", "sign", "count"]
theorem sc_is_table : FnScope N_is_table ["value"] (defScope s_is_table) := ⟨rfl, rfl, rfl, by decide +kernel, rfl, by decide +kernel, by decide +kernel⟩
abbrev s_check_table : Stmt := topS 33
abbrev N_check_table : List Str := ["table"]
theorem sc_check_table : FnScope N_check_table ["table"] (defScope s_check_table) := ⟨rfl, rfl, rfl, by decide +kernel, rfl, by decide +kernel, by decide +kernel⟩
abbrev s_keeps : Stmt := topS 55
abbrev N_keeps : List Str := ["table", "word"]
theorem sc_keeps : FnScope N_keeps ["table", "word"] (defScope s_keeps) := ⟨rfl, rfl, rfl, by decide +kernel, rfl, by decide +kernel, by decide +kernel⟩
abbrev s_words_of : Stmt := topS 57
abbrev N_words_of : List Str := ["table", "word"]
theorem sc_words_of : FnScope N_words_of ["table"] (defScope s_words_of) := ⟨rfl, rfl, rfl, by decide +kernel, rfl, by decide +kernel, by decide +kernel⟩
abbrev s_kept_by : Stmt := topS 58
abbrev N_kept_by : List Str := ["table"]
theorem sc_kept_by : FnScope N_kept_by ["table"] (defScope s_kept_by) := ⟨rfl, rfl, rfl, by decide +kernel, rfl, by decide +kernel, by decide +kernel⟩
abbrev s_leads_out : Stmt := topS 56
abbrev N_leads_out : List Str := ["table", "word"]
theorem sc_leads_out : FnScope N_leads_out ["table", "word"] (defScope s_leads_out) := ⟨rfl, rfl, rfl, by decide +kernel, rfl, by decide +kernel, by decide +kernel⟩
abbrev s_table_of_number : Stmt := topS 62
abbrev N_table_of_number : List Str := ["number", "found", "turn"]
theorem sc_table_of_number : FnScope N_table_of_number ["number"] (defScope s_table_of_number) := ⟨rfl, rfl, rfl, by decide +kernel, rfl, by decide +kernel, by decide +kernel⟩
abbrev s_least_breaker : Stmt := topS 61
abbrev N_least_breaker : List Str := ["word", "table", "number"]
theorem sc_least_breaker : FnScope N_least_breaker ["word"] (defScope s_least_breaker) := ⟨rfl, rfl, rfl, by decide +kernel, rfl, by decide +kernel, by decide +kernel⟩
abbrev s_relation : Stmt := topS 50
abbrev N_relation : List Str := ["word"]
theorem sc_relation : FnScope N_relation ["word"] (defScope s_relation) := ⟨rfl, rfl, rfl, by decide +kernel, rfl, by decide +kernel, by decide +kernel⟩
abbrev s_is_integer : Stmt := topS 29
abbrev N_is_integer : List Str := ["value"]
theorem sc_is_integer : FnScope N_is_integer ["value"] (defScope s_is_integer) := ⟨rfl, rfl, rfl, by decide +kernel, rfl, by decide +kernel, by decide +kernel⟩
abbrev s_is_between : Stmt := topS 30
abbrev N_is_between : List Str := ["value", "least", "most"]
theorem sc_is_between : FnScope N_is_between ["value", "least", "most"] (defScope s_is_between) := ⟨rfl, rfl, rfl, by decide +kernel, rfl, by decide +kernel, by decide +kernel⟩
abbrev s_check_order : Stmt := topS 39
abbrev N_check_order : List Str := ["count", "order", "each"]
theorem sc_check_order : FnScope N_check_order ["count", "order"] (defScope s_check_order) := ⟨rfl, rfl, rfl, by decide +kernel, rfl, by decide +kernel, by decide +kernel⟩
abbrev s_renamed_word_of : Stmt := topS 63
abbrev N_renamed_word_of : List Str := ["word", "order", "kind", "told", "sign"]
theorem sc_renamed_word_of : FnScope N_renamed_word_of ["word", "order"] (defScope s_renamed_word_of) := ⟨rfl, rfl, rfl, by decide +kernel, rfl, by decide +kernel, by decide +kernel⟩
abbrev s_renamed_word : Stmt := topS 64
abbrev N_renamed_word : List Str := ["word", "order"]
theorem sc_renamed_word : FnScope N_renamed_word ["word", "order"] (defScope s_renamed_word) := ⟨rfl, rfl, rfl, by decide +kernel, rfl, by decide +kernel, by decide +kernel⟩
abbrev s__law_right : Stmt := topS 78
abbrev N__law_right : List Str := ["spring", "turn_k", "fine", "bent", "menu", "said", "order_now", "is_bent", "is_said", "is_order", "told_now", "due", "k", "act", "sign", "each"]
theorem sc__law_right : FnScope N__law_right ["spring"] (defScope s__law_right) := ⟨rfl, rfl, rfl, by decide +kernel, rfl, by decide +kernel, by decide +kernel⟩
abbrev s__law_spring : Stmt := topS 66
abbrev N__law_spring : List Str := ["cells", "k", "cell", "mixed", "number"]
theorem sc__law_spring : FnScope N__law_spring ["cells", "k"] (defScope s__law_spring) := ⟨rfl, rfl, rfl, by decide +kernel, rfl, by decide +kernel, by decide +kernel⟩
abbrev s_law : Stmt := topS 79
abbrev N_law : List Str := ["script", "k"]
theorem sc_law : FnScope N_law ["script"] (defScope s_law) := ⟨rfl, rfl, rfl, by decide +kernel, rfl, by decide +kernel, by decide +kernel⟩
abbrev qn_lam : Str := (envOfC "_law_right" (defScope s__law_right) 0 0 .none).qual ++ "<lambda>"
/-- what the top has left -/
structure Txt0 (P : Program) (K : PySem.W.Frag) (mg : Str → Option Value) (cl : ClT) (co Pt : Addr) : Prop where
  a__law_all_words : At K mg "_law_all_words" s__law_all_words
  a__law_draw : At K mg "_law_draw" s__law_draw
  a__law_first : At K mg "_law_first" s__law_first
  a__law_is_whole : At K mg "_law_is_whole" s__law_is_whole
  a__law_of : At K mg "_law_of" s__law_of
  a__law_odd : At K mg "_law_odd" s__law_odd
  a__law_table : At K mg "_law_table" s__law_table
  a__law_error : At K mg "_law_error" s__law_error
  a__law_field : At K mg "_law_field" s__law_field
  a__law_told : At K mg "_law_told" s__law_told
  a__law_wrong : At K mg "_law_wrong" s__law_wrong
  a_is_word : At K mg "is_word" s_is_word
  a_check_word : At K mg "check_word" s_check_word
  a_all_arguments : At K mg "all_arguments" s_all_arguments
  a_table_from : At K mg "table_from" s_table_from
  a_all_tables : At K mg "all_tables" s_all_tables
  a_all_rows : At K mg "all_rows" s_all_rows
  a_chain_of : At K mg "chain_of" s_chain_of
  a_is_in_pairs : At K mg "is_in_pairs" s_is_in_pairs
  a_is_in : At K mg "is_in" s_is_in
  a_index_of : At K mg "index_of" s_index_of
  a_value_at : At K mg "value_at" s_value_at
  a_made_by : At K mg "made_by" s_made_by
  a_size_of : At K mg "size_of" s_size_of
  a_places_of : At K mg "places_of" s_places_of
  a_length_of : At K mg "length_of" s_length_of
  a_relation_of : At K mg "relation_of" s_relation_of
  a_out_of : At K mg "out_of" s_out_of
  a_is_kept : At K mg "is_kept" s_is_kept
  a_keepers_of : At K mg "keepers_of" s_keepers_of
  a_keepers : At K mg "keepers" s_keepers
  a_is_table : At K mg "is_table" s_is_table
  a_check_table : At K mg "check_table" s_check_table
  a_keeps : At K mg "keeps" s_keeps
  a_words_of : At K mg "words_of" s_words_of
  a_kept_by : At K mg "kept_by" s_kept_by
  a_leads_out : At K mg "leads_out" s_leads_out
  a_table_of_number : At K mg "table_of_number" s_table_of_number
  a_least_breaker : At K mg "least_breaker" s_least_breaker
  a_relation : At K mg "relation" s_relation
  a_is_integer : At K mg "is_integer" s_is_integer
  a_is_between : At K mg "is_between" s_is_between
  a_check_order : At K mg "check_order" s_check_order
  a_renamed_word_of : At K mg "renamed_word_of" s_renamed_word_of
  a_renamed_word : At K mg "renamed_word" s_renamed_word
  a__law_right : At K mg "_law_right" s__law_right
  a__law_spring : At K mg "_law_spring" s__law_spring
  a_law : At K mg "law" s_law
  z_ArithmeticError : mg "ArithmeticError" = none
  z_LookupError : mg "LookupError" = none
  z_ValueError : mg "ValueError" = none
  z_abs : mg "abs" = none
  z_all : mg "all" = none
  z_bool : mg "bool" = none
  z_divmod : mg "divmod" = none
  z_int : mg "int" = none
  z_isinstance : mg "isinstance" = none
  z_len : mg "len" = none
  z_list : mg "list" = none
  z_max : mg "max" = none
  z_min : mg "min" = none
  z_range : mg "range" = none
  z_repr : mg "repr" = none
  z_set : mg "set" = none
  z_sorted : mg "sorted" = none
  z_str : mg "str" = none
  z_tuple : mg "tuple" = none
  g_WORDS : CnT K mg "WORDS" ["set 0", "set 1", "set 2", "set 01", "set 02", "set 12", "part 0", "part 1", "part 2", "turn", "sums", "chain 0", "chain 1", "chain 2", "centre 0", "centre 1", "centre 2", "mixed"]
  g_MOST_PLACES : Cn mg "MOST_PLACES" (.int 3)
  g_DIGITS : Cn mg "DIGITS" (.str "012")
  i_bool : IsiT K "bool"
  i_int : IsiT K "int"
  i_str : IsiT K "str"
  i_tuple : IsiT K "tuple"
  er : ErrG K mg cl.f [2, 3, 4, 5, 6]
  x_InvalidWord : RaisX P K mg (xNm 3) "given"
  x_InvalidTable : RaisX P K mg (xNm 2) "given"
  x_InvalidOrder : RaisX P K mg (xNm 6) "given"
  f_keepers : mg "keepers" = some (.ref (cl.f 2000))
  f_least_breaker : mg "least_breaker" = some (.ref (cl.f 2001))
  f_relation : mg "relation" = some (.ref (cl.f 2002))
  f_keeps : mg "keeps" = some (.ref (cl.f 2003))
  f_leads_out : mg "leads_out" = some (.ref (cl.f 2004))
  noS : mg "super" = none
  hT : cl.T = [(Pt, qn_lam)]
  hco : ∀ fa fd, Fun K "_law_right" "_law_right" s__law_right fa fd → mg "_law_right" = some (.ref fa) → fd.code = .ref co
structure Txt (P : Program) (K : PySem.W.Frag) (mg : Str → Option Value) (base : Heap) (cl : ClT) (co Pt : Addr) : Prop extends Txt0 P K mg cl co Pt where
  tab : LamX.TabB base mg co Pt
section
variable {P : Program} {w : World} {K : PySem.W.Frag} {mg : Str → Option Value} {base : Heap} {cl : ClT} {co Pt : Addr}
theorem r_MOST_PLACES {N : Addr → Prop} {H : Hp} : Rep K cl N H (.int 3) g_MOST_PLACES := .int _
theorem r_DIGITS {N : Addr → Prop} {H : Hp} : Rep K cl N H (.str "012") g_DIGITS := .str _
theorem wf__law_all_words (T : Txt P K mg base cl co Pt) (fa : Addr) (fd : FuncData) (F : Fun K "_law_all_words" "_law_all_words" s__law_all_words fa fd) : FnG P w K mg base 1 fa fd [] (spF K cl 0 m__law_all_words) :=
  fnD (b := b__law_all_words) sc__law_all_words (fun fa cdv A outer s H E g hr tk =>
    pms_cons (pm_set 0 sc__law_all_words.nd (pm_lst true (pm_cons pm_str (pm_cons pm_str (pm_cons pm_str (pm_cons pm_str (pm_cons pm_str (pm_cons pm_str (pm_cons pm_str (pm_cons pm_str (pm_cons pm_str (pm_cons pm_str (pm_cons pm_str pm_nil))))))))))))) (pms_one (pm_ret (pm_op op_addM (ok_add false) (pm_v 0) (pm_lst true (pm_cons pm_str (pm_cons pm_str (pm_cons pm_str (pm_cons pm_str (pm_cons pm_str (pm_cons pm_str (pm_cons pm_str pm_nil)))))))))))) fa fd F
theorem wk__law_all_words (T : Txt P K mg base cl co Pt) : CalG P w K mg base cl 1 "_law_all_words" 0 m__law_all_words := calG_of T.a__law_all_words (binds_of fun _ _ _ _ _ _ us hl => match us, hl with | [], _ => rfl) (wf__law_all_words T)
theorem wf__law_draw (T : Txt P K mg base cl co Pt) (fa : Addr) (fd : FuncData) (F : Fun K "_law_draw" "_law_draw" s__law_draw fa fd) : FnG P w K mg base 1 fa fd ["spring", "size"] (spF K cl 2 m__law_draw) :=
  fnD (b := b__law_draw) sc__law_draw (fun fa cdv A outer s H E g hr tk =>
    pms_cons (pm_asg (pm_op op_addM (ok_add true) (pm_ix ix_seq ok_ix (pm_v 0) pm_int) pm_int) (pg_sub (pm_v 0) pm_int set_list) (tg_sub (W := W0) rfl rfl)) (pms_cons (pm_asg (pm_op op_mod ok_fMod (pm_t call_intM (ok_int) T.z_int (by rfl) (pm_cons (pm_op op_addM (ok_add true) (pm_op op_addM (ok_add true) (pm_op op_mulM (ok_mul true) (pm_ix ix_seq ok_ix (pm_v 0) pm_int) pm_int) (pm_op op_mulM (ok_mul true) pm_int (pm_ix ix_seq ok_ix (pm_v 0) pm_int))) pm_int) pm_nil)) pm_int) (pg_sub (pm_v 0) pm_int set_list) (tg_sub (W := W0) rfl rfl)) (pms_cons (pm_ifs (pt_cmpM op_gt ok_fGt (pm_ix ix_seq ok_ix (pm_v 0) pm_int) pm_int) (pms_cons (pm_asg (pm_b (nm := "") call_divmodZ (ok_divmod) T.z_divmod (by rfl) (pm_cons (pm_ix ix_seq ok_ix (pm_v 0) pm_int) (pm_cons (pm_v 1) pm_nil))) (pg_any (n := 2) rfl (pgs_cons (pg_sub (pm_v 0) pm_int set_list) (pgs_cons (pg_name (i := 4) sc__law_draw.nd rfl (by first | exact Or.inl rfl | exact Or.inr rfl)) pgs_nil))) (tg_any (tgs_cons (tg_sub (W := W0) rfl rfl) (tgs_cons (tg_name 4) tgs_nil)))) (pms_one (pm_ret (pm_v 4)))) pms_nil) (pms_cons (pm_set 2 sc__law_draw.nd (pm_op op_addM (ok_add true) (pm_ix ix_seq ok_ix (pm_v 0) pm_int) pm_int)) (pms_cons (pm_set 3 sc__law_draw.nd (pm_op op_mod ok_fMod (pm_t call_intM (ok_int) T.z_int (by rfl) (pm_cons (pm_op op_addM (ok_add true) (pm_op op_mulM (ok_mul true) (pm_v 2) (pm_ix ix_seq ok_ix (pm_v 0) pm_int)) (pm_ix ix_seq ok_ix (pm_v 0) pm_int)) pm_nil)) pm_int)) (pms_one (pm_ret (pm_op op_mod ok_fMod (pm_t call_intM (ok_int) T.z_int (by rfl) (pm_cons (pm_op op_fdiv ok_fFdv (pm_v 3) pm_int) pm_nil)) (pm_v 1))))))))) fa fd F
theorem wk__law_draw (T : Txt P K mg base cl co Pt) : CalG P w K mg base cl 1 "_law_draw" 2 m__law_draw := calG_of T.a__law_draw (binds_of fun _ _ _ _ _ _ us hl => match us, hl with | [_, _], _ => rfl) (wf__law_draw T)
theorem wf__law_first (T : Txt P K mg base cl co Pt) (fa : Addr) (fd : FuncData) (F : Fun K "_law_first" "_law_first" s__law_first fa fd) : FnG P w K mg base 1 fa fd ["some"] (spF K cl 1 m__law_first) :=
  fnD (b := b__law_first) sc__law_first (fun fa cdv A outer s H E g hr tk =>
    pms_one (pm_ret (pm_ix ix_seq ok_ix (pm_op op_addM (ok_add true) (pm_lcV true (own := [("each", 1)]) rfl sc__law_first.nd (pm_v 0) (blkOk_by (N := N__law_first) (sc := (defScope s__law_first)) (own := [("each", 1)]) (by decide +kernel)) (fun _ _ _ _ _ => (pg_name (i := 1) sc__law_first.nd rfl (by first | exact Or.inl rfl | exact Or.inr rfl))) (tgc_name 1 (by decide)) (fun _ _ _ _ _ => (pts_one (pt_cmpM (op_neM (hu64 hr)) ok_ne (pm_v 1) (pm_lst true pm_nil)))) (fun _ _ _ h => h) (fun _ _ _ _ _ => (pm_v 1))) (pm_lst true (pm_cons (pm_lst true pm_nil) pm_nil))) pm_int))) fa fd F
theorem wk__law_first (T : Txt P K mg base cl co Pt) : CalG P w K mg base cl 1 "_law_first" 1 m__law_first := calG_of T.a__law_first (binds_of fun _ _ _ _ _ _ us hl => match us, hl with | [_], _ => rfl) (wf__law_first T)
theorem wf__law_is_whole (T : Txt P K mg base cl co Pt) (fa : Addr) (fd : FuncData) (F : Fun K "_law_is_whole" "_law_is_whole" s__law_is_whole fa fd) : FnG P w K mg base 1 fa fd ["thing", "least", "most"] (spF K cl 3 m__law_is_whole) :=
  fnD (b := b__law_is_whole) sc__law_is_whole (fun fa cdv A outer s H E g hr tk =>
    pms_one (pm_ret (pm_and (pm_isi T.i_int (pm_v 0) T.z_isinstance T.z_int (by rfl)) (pm_and (pm_not (pm_isi T.i_bool (pm_v 0) T.z_isinstance T.z_bool (by rfl))) (pm_one (pm_chain op_le op_le ok_fLe ok_fLe (pm_v 1) (pm_v 0) (pm_v 2))))))) fa fd F
theorem wk__law_is_whole (T : Txt P K mg base cl co Pt) : CalG P w K mg base cl 1 "_law_is_whole" 3 m__law_is_whole := calG_of T.a__law_is_whole (binds_of fun _ _ _ _ _ _ us hl => match us, hl with | [_, _, _], _ => rfl) (wf__law_is_whole T)
theorem wf__law_of (T : Txt P K mg base cl co Pt) (fa : Addr) (fd : FuncData) (F : Fun K "_law_of" "_law_of" s__law_of fa fd) : FnG P w K mg base 2 fa fd ["spring", "menu"] (spF K cl 2 m__law_of) :=
  fnD (b := b__law_of) sc__law_of (fun fa cdv A outer s H E g hr tk =>
    pms_one (pm_ret (pm_ix ix_seq ok_ix (pm_v 1) (pm_call false (wk__law_draw T) hr g tk (by rfl) (pm_cons (pm_v 0) (pm_cons (pm_b (nm := "") call_len (ok_len) T.z_len (by rfl) (pm_cons (pm_v 1) pm_nil)) pm_nil)))))) fa fd F
theorem wk__law_of (T : Txt P K mg base cl co Pt) : CalG P w K mg base cl 2 "_law_of" 2 m__law_of := calG_of T.a__law_of (binds_of fun _ _ _ _ _ _ us hl => match us, hl with | [_, _], _ => rfl) (wf__law_of T)
theorem wf__law_odd (T : Txt P K mg base cl co Pt) (fa : Addr) (fd : FuncData) (F : Fun K "_law_odd" "_law_odd" s__law_odd fa fd) : FnG P w K mg base 3 fa fd ["spring"] (spF K cl 1 m__law_odd) :=
  fnD (b := b__law_odd) sc__law_odd (fun fa cdv A outer s H E g hr tk =>
    pms_cons (pm_set 1 sc__law_odd.nd (pm_lst true (pm_cons pm_non (pm_cons pm_bl (pm_cons pm_bl (pm_cons pm_int (pm_cons pm_int (pm_cons (pm_un un_neg ok_neg pm_int) (pm_cons pm_int (pm_cons (pm_op op_pow ok_fPow pm_int pm_int) (pm_cons pm_str (pm_cons pm_str (pm_cons pm_str (pm_cons pm_str (pm_cons pm_str (pm_cons pm_str (pm_cons pm_str (pm_cons pm_str (pm_cons pm_str pm_nil))))))))))))))))))) (pms_cons (pm_set 1 sc__law_odd.nd (pm_op op_addM (ok_add true) (pm_v 1) (pm_lst true (pm_cons pm_str (pm_cons (pm_tup pm_nil) (pm_cons (pm_tup (pm_cons pm_int pm_nil)) (pm_cons (pm_tup (pm_cons pm_int (pm_cons pm_int pm_nil))) (pm_cons (pm_tup (pm_cons pm_int (pm_cons pm_int pm_nil))) (pm_cons (pm_tup (pm_cons pm_int (pm_cons pm_int pm_nil))) (pm_cons (pm_tup (pm_cons pm_bl (pm_cons pm_int pm_nil))) (pm_cons (pm_tup (pm_cons pm_int (pm_cons pm_int (pm_cons pm_int pm_nil)))) (pm_cons (pm_tup (pm_cons pm_int (pm_cons pm_int (pm_cons pm_int pm_nil)))) (pm_cons (pm_tup (pm_cons pm_str pm_nil)) (pm_cons (pm_tup (pm_cons pm_str pm_nil)) pm_nil)))))))))))))) (pms_cons (pm_set 1 sc__law_odd.nd (pm_op op_addM (ok_add true) (pm_v 1) (pm_lst true (pm_cons (pm_lst true pm_nil) (pm_cons (pm_lst true (pm_cons pm_int pm_nil)) (pm_cons (pm_lst true (pm_cons pm_str pm_nil)) (pm_cons pm_dic0 (pm_cons (pm_dicC [("a", 0)] (pps_cons pe_str pe_int pps_nil)) (pm_cons (pm_tup (pm_cons (pm_lst true pm_nil) pm_nil)) (pm_cons (pm_tup (pm_cons pm_non pm_nil)) (pm_cons (pm_tup (pm_cons (pm_tup pm_nil) pm_nil)) (pm_cons (pm_tup (pm_cons pm_str pm_nil)) (pm_cons (pm_tup (pm_cons pm_str (pm_cons pm_str pm_nil))) (pm_cons (pm_tup (pm_cons pm_str (pm_cons pm_str pm_nil))) pm_nil)))))))))))))) (pms_one (pm_ret (pm_call true (wk__law_of T) hr g tk (by rfl) (pm_cons (pm_v 0) (pm_cons (pm_op op_addM (ok_add true) (pm_v 1) (pm_lst true (pm_cons (pm_tup (pm_cons pm_str (pm_cons pm_str (pm_cons pm_str pm_nil)))) (pm_cons (pm_tup (pm_cons pm_str (pm_cons (pm_tup (pm_cons pm_str pm_nil)) pm_nil))) (pm_cons (pm_tup (pm_cons pm_bl pm_nil)) pm_nil))))) pm_nil)))))))) fa fd F
theorem wk__law_odd (T : Txt P K mg base cl co Pt) : CalG P w K mg base cl 3 "_law_odd" 1 m__law_odd := calG_of T.a__law_odd (binds_of fun _ _ _ _ _ _ us hl => match us, hl with | [_], _ => rfl) (wf__law_odd T)
theorem wf__law_table (T : Txt P K mg base cl co Pt) (fa : Addr) (fd : FuncData) (F : Fun K "_law_table" "_law_table" s__law_table fa fd) : FnG P w K mg base 3 fa fd ["spring", "size"] (spF K cl 2 m__law_table) :=
  fnD (b := b__law_table) sc__law_table (fun fa cdv A outer s H E g hr tk =>
    pms_cons (pm_set 2 sc__law_table.nd (pm_lst false (pm_cons (pm_lst true (pm_cons pm_str (pm_cons pm_str (pm_cons pm_str (pm_cons pm_str (pm_cons pm_str (pm_cons pm_str (pm_cons pm_str (pm_cons pm_str (pm_cons pm_str (pm_cons pm_str pm_nil))))))))))) pm_nil))) (pms_cons (pm_exp (pm_append (pm_v 2) (pm_lst true (pm_cons pm_str (pm_cons pm_str (pm_cons pm_str (pm_cons pm_str (pm_cons pm_str (pm_cons pm_str pm_nil))))))))) (pms_cons (pm_asg (pm_op op_addM (ok_add true) (pm_ix ix_seq ok_ix (pm_v 2) pm_int) (pm_lst true (pm_cons pm_str (pm_cons pm_str pm_nil)))) (pg_sub (pm_v 2) pm_int set_list) (tg_sub (W := W0) rfl rfl)) (pms_cons (pm_ifs (PW.pt (pw_andM (pt_cmpM op_lt ok_fLt (pm_v 1) pm_int) (pw_and1M (pt_cmpM (op_eqM (hu64 hr)) ok_eq (pm_call false (wk__law_draw T) hr g tk (by rfl) (pm_cons (pm_v 0) (pm_cons pm_int pm_nil))) pm_int)))) (pms_one (pm_ret (pm_call true (wk__law_of T) hr g tk (by rfl) (pm_cons (pm_v 0) (pm_cons (pm_ix ix_seq ok_ix (pm_v 2) (pm_op op_sub ok_fSub (pm_v 1) pm_int)) pm_nil))))) pms_nil) (pms_one (pm_ret (pm_join pm_str (pm_lc true (own := [("k", 3)]) rfl sc__law_table.nd (pi_r1 T.z_range (pm_ix ix_seq ok_ix (pm_lst true (pm_cons pm_int (pm_cons pm_int (pm_cons pm_int pm_nil)))) (pm_op op_sub ok_fSub (pm_v 1) pm_int))) (blkOk_by (N := N__law_table) (sc := (defScope s__law_table)) (own := [("k", 3)]) (by decide +kernel)) (fun _ _ _ _ _ => (pg_name (i := 3) sc__law_table.nd rfl (by first | exact Or.inl rfl | exact Or.inr rfl))) (tgc_name 3 (by decide)) (fun _ _ _ _ _ => pts_nil) (fun _ _ _ => tYes_ok) (fun _ _ _ _ _ => (pm_t call_strM (ok_str) T.z_str (by rfl) (pm_cons (pm_call false (wk__law_draw T) hr g takes0 (by rfl) (pm_cons (pm_v 0) (pm_cons pm_int pm_nil))) pm_nil))))))))))) fa fd F
theorem wk__law_table (T : Txt P K mg base cl co Pt) : CalG P w K mg base cl 3 "_law_table" 2 m__law_table := calG_of T.a__law_table (binds_of fun _ _ _ _ _ _ us hl => match us, hl with | [_, _], _ => rfl) (wf__law_table T)
theorem wf__law_error (T : Txt P K mg base cl co Pt) (i : Nat) (hi : i ∈ ([2, 3, 4, 5, 6] : List Nat)) (fa : Addr) (fd : FuncData) (F : Fun K "_law_error" "_law_error" s__law_error fa fd) : FnE P w K mg base C8.CX0 1 fa fd ["e"] (spE K cl.T (cl.f i) 1 (m__law_error i)) :=
  fnE_M (k := 0) (b := (b__law_error i)) F sc__law_error (fun cdv A outer s H E p dd hr hE =>
    pms_cons (pm_set 1 sc__law_error.nd (pm_lst true (pm_cons (pm_isXC 0 hE T.er hi (by decide) rfl rfl rfl (pm_v 0) T.z_isinstance) (pm_cons (pm_isXC 1 hE T.er hi (by decide) rfl rfl rfl (pm_v 0) T.z_isinstance) (pm_cons (pm_isXC 2 hE T.er hi (by decide) rfl rfl rfl (pm_v 0) T.z_isinstance) pm_nil))))) (pms_cons (pm_set 1 sc__law_error.nd (pm_op op_addM (ok_add true) (pm_v 1) (pm_lst true (pm_cons (pm_isXC 3 hE T.er hi (by decide) rfl rfl rfl (pm_v 0) T.z_isinstance) (pm_cons (pm_isXC 4 hE T.er hi (by decide) rfl rfl rfl (pm_v 0) T.z_isinstance) pm_nil))))) (pms_cons (pm_set 1 sc__law_error.nd (pm_op op_addM (ok_add true) (pm_v 1) (pm_lst true (pm_cons (pm_isXC 5 hE T.er hi (by decide) rfl rfl rfl (pm_v 0) T.z_isinstance) (pm_cons (pm_isXC 6 hE T.er hi (by decide) rfl rfl rfl (pm_v 0) T.z_isinstance) (pm_cons (pm_isXC 7 hE T.er hi (by decide) rfl rfl rfl (pm_v 0) T.z_isinstance) pm_nil)))))) (pms_cons (pm_set 1 sc__law_error.nd (pm_op op_addM (ok_add true) (pm_v 1) (pm_lst true (pm_cons (pm_isXC 8 hE T.er hi (by decide) rfl rfl rfl (pm_v 0) T.z_isinstance) (pm_cons (pm_isXC 9 hE T.er hi (by decide) rfl rfl rfl (pm_v 0) T.z_isinstance) (pm_cons (pm_isXC 10 hE T.er hi (by decide) rfl rfl rfl (pm_v 0) T.z_isinstance) pm_nil)))))) (pms_cons (pm_set 1 sc__law_error.nd (pm_op op_addM (ok_add true) (pm_v 1) (pm_lst true (pm_cons (pm_isXC 11 hE T.er hi (by decide) rfl rfl rfl (pm_v 0) T.z_isinstance) (pm_cons (pm_isXC 12 hE T.er hi (by decide) rfl rfl rfl (pm_v 0) T.z_isinstance) (pm_cons (pm_isXC 13 hE T.er hi (by decide) rfl rfl rfl (pm_v 0) T.z_isinstance) pm_nil)))))) (pms_cons (pm_set 1 sc__law_error.nd (pm_op op_addM (ok_add true) (pm_v 1) (pm_lst true (pm_cons (pm_isXC 14 hE T.er hi (by decide) rfl rfl rfl (pm_v 0) T.z_isinstance) (pm_cons (pm_isXC 15 hE T.er hi (by decide) rfl rfl rfl (pm_v 0) T.z_isinstance) pm_nil))))) (pms_cons (pm_set 1 sc__law_error.nd (pm_op op_addM (ok_add true) (pm_v 1) (pm_lst true (pm_cons (pm_isXC 16 hE T.er hi (by decide) rfl rfl rfl (pm_v 0) T.z_isinstance) (pm_cons (pm_isXC 17 hE T.er hi (by decide) rfl rfl rfl (pm_v 0) T.z_isinstance) (pm_cons (pm_isXC 18 hE T.er hi (by decide) rfl rfl rfl (pm_v 0) T.z_isinstance) pm_nil)))))) (pms_cons (pm_set 1 sc__law_error.nd (pm_op op_addM (ok_add true) (pm_v 1) (pm_lst true (pm_cons (pm_isXC 19 hE T.er hi (by decide) rfl rfl rfl (pm_v 0) T.z_isinstance) (pm_cons (pm_isXC 20 hE T.er hi (by decide) rfl rfl rfl (pm_v 0) T.z_isinstance) (pm_cons (pm_isXC 21 hE T.er hi (by decide) rfl rfl rfl (pm_v 0) T.z_isinstance) pm_nil)))))) (pms_cons (pm_set 2 sc__law_error.nd (pm_lst true (pm_cons pm_str (pm_cons pm_str (pm_cons pm_str (pm_cons pm_str (pm_cons pm_str (pm_cons pm_str pm_nil)))))))) (pms_cons (pm_set 2 sc__law_error.nd (pm_op op_addM (ok_add true) (pm_v 2) (pm_lst true (pm_cons pm_str (pm_cons pm_str (pm_cons pm_str (pm_cons pm_str (pm_cons pm_str (pm_cons pm_str pm_nil))))))))) (pms_cons (pm_set 2 sc__law_error.nd (pm_op op_addM (ok_add true) (pm_v 2) (pm_lst true (pm_cons pm_str (pm_cons pm_str (pm_cons pm_str (pm_cons pm_str (pm_cons pm_str pm_nil)))))))) (pms_cons (pm_set 2 sc__law_error.nd (pm_op op_addM (ok_add true) (pm_v 2) (pm_lst true (pm_cons pm_str (pm_cons pm_str (pm_cons pm_str (pm_cons pm_str (pm_cons pm_str pm_nil)))))))) (pms_cons (pm_set 3 sc__law_error.nd (pm_lst true (pm_cons (pm_isXC 22 hE T.er hi (by decide) rfl rfl rfl (pm_v 0) T.z_isinstance) (pm_cons (pm_isXC 23 hE T.er hi (by decide) rfl rfl rfl (pm_v 0) T.z_isinstance) (pm_cons (pm_isXC 24 hE T.er hi (by decide) rfl rfl rfl (pm_v 0) T.z_isinstance) pm_nil))))) (pms_cons (pm_set 4 sc__law_error.nd (pm_lst true (pm_cons (pm_isXB 22 hE (T.er.ce i hi) rfl rfl (pm_v 0) T.z_ValueError rfl (T.er.k1 i hi) T.z_isinstance) (pm_cons (pm_isXB 23 hE (T.er.ce i hi) rfl rfl (pm_v 0) T.z_LookupError rfl (T.er.k2 i hi) T.z_isinstance) (pm_cons (pm_isXB 24 hE (T.er.ce i hi) rfl rfl (pm_v 0) T.z_ArithmeticError rfl (T.er.k3 i hi) T.z_isinstance) pm_nil))))) (pms_cons (pm_ifs (PW.pt (pw_orM (pt_cmpM (op_neM (hu64H hr)) ok_ne (pm_lcount (hu65H hr) (pm_v 1) pm_bl) pm_int) (pw_or1M (pt_cmpM (op_neM (hu64H hr)) ok_ne (pm_v 3) (pm_v 4))))) (pms_one (pm_ret pm_str)) pms_nil) (pms_cons (pm_set 5 sc__law_error.nd (pm_index (hu65H hr) (pm_v 1) pm_bl)) (pms_one (pm_ret (pm_if (pt_cmpM (op_eqM (hu64H hr)) ok_eq (pm_v 3) (pm_lst true (pm_cons (pm_cmp op_lt ok_fLt (pm_v 5) pm_int) (pm_cons (pm_chain op_lt op_lt ok_fLt ok_fLt pm_int (pm_v 5) pm_int) (pm_cons (pm_cmp op_gt ok_fGt (pm_v 5) pm_int) pm_nil))))) (pm_ix ix_seq ok_ix (pm_v 2) (pm_v 5)) pm_str)))))))))))))))))))
theorem wf__law_field (T : Txt P K mg base cl co Pt) (i : Nat) (hi : i ∈ ([2, 3, 4, 5, 6] : List Nat)) (fa : Addr) (fd : FuncData) (F : Fun K "_law_field" "_law_field" s__law_field fa fd) : FnE P w K mg base C8.CX0 1 fa fd ["e", "word_now"] (spE K cl.T (cl.f i) 2 (m__law_field)) :=
  fnE_M (k := 0) (b := b__law_field) F sc__law_field (fun cdv A outer s H E p dd hr hE =>
    pms_cons (pm_ifs (pt_cmpM (op_inM (hu65H hr)) ok_in (pm_v 1) (pm_lst true (pm_cons pm_str (pm_cons pm_str (pm_cons pm_str (pm_cons pm_str (pm_cons pm_str (pm_cons pm_str pm_nil)))))))) (pms_one (pm_ret (pm_fldX hE (T.er.ce i hi).xf (T.er.n2 i hi) rfl rfl (pm_v 0)))) pms_nil) (pms_cons (pm_ifs (pt_cmpM (op_eqM (hu64H hr)) ok_eq (pm_v 1) pm_str) (pms_one (pm_ret (pm_lst false (pm_cons (pm_fldX hE (T.er.ce i hi).xf (T.er.n2 i hi) rfl rfl (pm_v 0)) (pm_cons (pm_fldX hE (T.er.ce i hi).xf (T.er.n3 i hi) rfl rfl (pm_v 0)) pm_nil))))) pms_nil) (pms_one (pm_ret (pm_if (pt_cmpM (op_inM (hu65H hr)) ok_in (pm_v 1) (pm_lst true (pm_cons pm_str (pm_cons pm_str pm_nil)))) pm_non (pm_fldX hE (T.er.ce i hi).xf (T.er.n1 i hi) rfl rfl (pm_v 0)))))))
theorem errF_ (T : Txt P K mg base cl co Pt) : ErrF P w K mg base cl t_law 1 (.ref (cl.f 22)) (.ref (cl.f 23)) (.ref (cl.f 24)) :=
  ⟨T.er.nm 22 (by decide), T.er.nm 23 (by decide), T.er.nm 24 (by decide), T.z_repr, fun i h => T.er.ex i (by simpa [t_law, mkErr] using h), (let ⟨fa, fd, hm, F⟩ := T.a__law_error; ⟨fa, fd, ["e"], hm, F.kp, binds_of (fun _ _ _ _ _ _ us hl => match us, hl with | [_], _ => rfl) fa fd F, fun i h => wf__law_error T i (by simpa [t_law, mkErr] using h) fa fd F⟩), (let ⟨fa, fd, hm, F⟩ := T.a__law_field; ⟨fa, fd, ["e", "word_now"], hm, F.kp, binds_of (fun _ _ _ _ _ _ us hl => match us, hl with | [_, _], _ => rfl) fa fd F, fun i h => wf__law_field T i (by simpa [t_law, mkErr] using h) fa fd F⟩)⟩
theorem wf__law_wrong (T : Txt P K mg base cl co Pt) (fa : Addr) (fd : FuncData) (F : Fun K "_law_wrong" "_law_wrong" s__law_wrong fa fd) : FnG P w K mg base 1 fa fd ["is_right", "word_now", "thing"] (spF K cl 3 m__law_wrong) :=
  fnD (b := b__law_wrong) sc__law_wrong (fun fa cdv A outer s H E g hr tk =>
    pms_one (pm_ret (pm_if (pt_truM (pm_v 0)) (pm_lst false pm_nil) (pm_lst false (pm_cons pm_str (pm_cons (pm_v 1) (pm_cons (pm_b (nm := "") (cr_reprD g (hu70 hr)) (ok_reprD) T.z_repr (by rfl) (pm_cons (pm_v 2) pm_nil)) pm_nil))))))) fa fd F
theorem wk__law_wrong (T : Txt P K mg base cl co Pt) : CalG P w K mg base cl 1 "_law_wrong" 3 m__law_wrong := calG_of T.a__law_wrong (binds_of fun _ _ _ _ _ _ us hl => match us, hl with | [_, _, _], _ => rfl) (wf__law_wrong T)
theorem wf_is_word (T : Txt P K mg base cl co Pt) (fa : Addr) (fd : FuncData) (F : Fun K "is_word" "is_word" s_is_word fa fd) : FnG P w K mg base 1 fa fd ["value"] (spF K cl 1 m_is_word) :=
  fnD (b := b_is_word) sc_is_word (fun fa cdv A outer s H E g hr tk =>
    pms_one (pm_ret (pm_and (pm_isi T.i_str (pm_v 0) T.z_isinstance T.z_str (by rfl)) (pm_one (pm_cmp (op_inM (hu65 hr)) ok_in (pm_v 0) (pm_gT T.g_WORDS rfl)))))) fa fd F
theorem wk_is_word (T : Txt P K mg base cl co Pt) : CalG P w K mg base cl 1 "is_word" 1 m_is_word := calG_of T.a_is_word (binds_of fun _ _ _ _ _ _ us hl => match us, hl with | [_], _ => rfl) (wf_is_word T)
theorem wf_check_word (T : Txt P K mg base cl co Pt) (fa : Addr) (fd : FuncData) (F : Fun K "check_word" "check_word" s_check_word fa fd) : FnG P w K mg base 2 fa fd ["word"] (spF K cl 1 m_check_word) :=
  fnD (b := b_check_word) sc_check_word (fun fa cdv A outer s H E g hr tk =>
    pms_one (pm_ifs (pt_notM (pt_truM (pm_call false (wk_is_word T) hr g tk (by rfl) (pm_cons (pm_v 0) pm_nil)))) (pms_one (pm_raiseE 3 T.er (by decide) T.x_InvalidWord (.inl rfl) hr tk T.noS (pm_v 0))) pms_nil)) fa fd F
theorem wk_check_word (T : Txt P K mg base cl co Pt) : CalG P w K mg base cl 2 "check_word" 1 m_check_word := calG_of T.a_check_word (binds_of fun _ _ _ _ _ _ us hl => match us, hl with | [_], _ => rfl) (wf_check_word T)
theorem wf_all_arguments (T : Txt P K mg base cl co Pt) (fa : Addr) (fd : FuncData) (F : Fun K "all_arguments" "all_arguments" s_all_arguments fa fd) : FnG P w K mg base 1 fa fd ["count"] (spF K cl 1 m_all_arguments) :=
  fnD (b := b_all_arguments) sc_all_arguments (fun fa cdv A outer s H E g hr tk =>
    pms_cons (pm_set 1 sc_all_arguments.nd (pm_lst true (pm_cons (pm_tup pm_nil) pm_nil))) (pms_cons (pm_for (passes_of rfl) rfl (pi_r1 T.z_range (pm_v 0)) (pg_name (i := 2) sc_all_arguments.nd rfl (by first | exact Or.inl rfl | exact Or.inr rfl)) (tg_name 2) (pms_one (pm_setLc2 true 1 (own := [("some", 3), ("each", 4)]) rfl sc_all_arguments.nd (sw_true rfl rfl rfl (by decide +kernel)) (pi_v (pm_v 1)) (blkOk_by (N := N_all_arguments) (sc := (defScope s_all_arguments)) (own := [("some", 3), ("each", 4)]) (by decide +kernel)) (vs1 := [4]) (by decide) (fun _ _ _ _ _ => (pg_name (i := 3) sc_all_arguments.nd rfl (by first | exact Or.inl rfl | exact Or.inr rfl))) (tgc_name 3 (by decide)) (fun _ _ _ _ _ => pts_nil) (fun _ _ _ => tYes_ok) (fun _ _ _ _ _ => (pi_r1 T.z_range pm_int)) (fun _ _ _ _ _ => (pg_name (i := 4) sc_all_arguments.nd rfl (by first | exact Or.inl rfl | exact Or.inr rfl))) (tgc_name 4 (by decide)) (fun _ _ _ _ _ => pts_nil) (fun _ _ _ => tYes_ok) (fun _ _ _ _ _ => (pm_tup (pm_star (pm_v 3) (pm_cons (pm_v 4) pm_nil))))))) (pms_one (pm_ret (pm_v 1))))) fa fd F
theorem wk_all_arguments (T : Txt P K mg base cl co Pt) : CalG P w K mg base cl 1 "all_arguments" 1 m_all_arguments := calG_of T.a_all_arguments (binds_of fun _ _ _ _ _ _ us hl => match us, hl with | [_], _ => rfl) (wf_all_arguments T)
theorem wf_table_from (T : Txt P K mg base cl co Pt) (fa : Addr) (fd : FuncData) (F : Fun K "table_from" "table_from" s_table_from fa fd) : FnG P w K mg base 1 fa fd ["values"] (spF K cl 1 m_table_from) :=
  fnD (b := b_table_from) sc_table_from (fun fa cdv A outer s H E g hr tk =>
    pms_one (pm_ret (pm_join pm_str (pm_lcV true (own := [("each", 1)]) rfl sc_table_from.nd (pm_v 0) (blkOk_by (N := N_table_from) (sc := (defScope s_table_from)) (own := [("each", 1)]) (by decide +kernel)) (fun _ _ _ _ _ => (pg_name (i := 1) sc_table_from.nd rfl (by first | exact Or.inl rfl | exact Or.inr rfl))) (tgc_name 1 (by decide)) (fun _ _ _ _ _ => pts_nil) (fun _ _ _ => tYes_ok) (fun _ _ _ _ _ => (pm_t call_strM (ok_str) T.z_str (by rfl) (pm_cons (pm_v 1) pm_nil))))))) fa fd F
theorem wk_table_from (T : Txt P K mg base cl co Pt) : CalG P w K mg base cl 1 "table_from" 1 m_table_from := calG_of T.a_table_from (binds_of fun _ _ _ _ _ _ us hl => match us, hl with | [_], _ => rfl) (wf_table_from T)
theorem wf_all_tables (T : Txt P K mg base cl co Pt) (fa : Addr) (fd : FuncData) (F : Fun K "all_tables" "all_tables" s_all_tables fa fd) : FnG P w K mg base 2 fa fd [] (spF K cl 0 m_all_tables) :=
  fnD (b := b_all_tables) sc_all_tables (fun fa cdv A outer s H E g hr tk =>
    pms_one (pm_ret (pm_t call_tupleZ (ok_tuple) T.z_tuple (by rfl) (pm_cons (pm_lc true (own := [("some", 0)]) rfl sc_all_tables.nd (pi_v (pm_call false (wk_all_arguments T) hr g tk (by rfl) (pm_cons pm_int pm_nil))) (blkOk_by (N := N_all_tables) (sc := (defScope s_all_tables)) (own := [("some", 0)]) (by decide +kernel)) (fun _ _ _ _ _ => (pg_name (i := 0) sc_all_tables.nd rfl (by first | exact Or.inl rfl | exact Or.inr rfl))) (tgc_name 0 (by decide)) (fun _ _ _ _ _ => pts_nil) (fun _ _ _ => tYes_ok) (fun _ _ _ _ _ => (pm_call false (wk_table_from T) hr g takes0 (by rfl) (pm_cons (pm_v 0) pm_nil)))) pm_nil)))) fa fd F
theorem wk_all_tables (T : Txt P K mg base cl co Pt) : CalG P w K mg base cl 2 "all_tables" 0 m_all_tables := calG_of T.a_all_tables (binds_of fun _ _ _ _ _ _ us hl => match us, hl with | [], _ => rfl) (wf_all_tables T)
theorem wg_all_rows (T : Txt P K mg base cl co Pt) : GDef P w K mg base cl 8 "all_rows" 2 (gfRows 3) := by
  obtain ⟨fa, fd, hm, F⟩ := T.a_all_rows
  have nd : (N_all_rows : List Str).Nodup := by decide +kernel
  refine gd_rows (st := s_all_rows) (N := N_all_rows) (ps := ["some", "count"]) hm (binds_of (fun _ _ _ _ _ _ us hl => match us, hl with | [_, _], _ => rfl) fa fd F) rfl rfl F rfl rfl rfl nd rfl (by decide +kernel) (fun x => noc_of (by decide +kernel) x) (fun _ => rfl) ?_ 3
  rintro ⟨P, w, K, mg, base, cl, B, A, outer, N, qual, sc, L, f, cd, g0, a, k⟩ rfl rfl rfl rfl rfl rfl rfl rfl ok
  have hr := ok.room
  have g := ok.guards
  exact ⟨_, _, _, _, _, _, _, _, _, _, _, _, _, _, _, _, _, rfl, rfl, fun _ _ => (pt_cmpM (op_eqM (hu64 hr)) ok_eq (pm_v 1) pm_int), fun _ _ => (pm_tup pm_nil), fun _ _ => (pi_v (pm_v 0)), fun _ _ => (pg_name (i := 2) nd rfl (Or.inl rfl)), fun _ => rfl, fun _ _ => (by rfl), fun _ _ => (pm_cons (pm_v 0) (pm_cons (pm_op op_sub ok_fSub (pm_v 1) pm_int) pm_nil)), fun _ _ => (pg_name (i := 3) nd rfl (Or.inl rfl)), by decide, rfl, rfl, fun _ => rfl, fun _ _ => (pm_tup (pm_cons (pm_v 2) (pm_star (pm_v 3) pm_nil)))⟩
theorem wf_chain_of (T : Txt P K mg base cl co Pt) (fa : Addr) (fd : FuncData) (F : Fun K "chain_of" "chain_of" s_chain_of fa fd) : FnG P w K mg base 1 fa fd ["middle"] (spF K cl 1 m_chain_of) :=
  fnD (b := b_chain_of) sc_chain_of (fun fa cdv A outer s H E g hr tk =>
    pms_cons (pm_setLc true 1 (own := [("each", 2)]) rfl sc_chain_of.nd (sw_true rfl rfl rfl (by decide +kernel)) (pi_r1 T.z_range pm_int) (blkOk_by (N := N_chain_of) (sc := (defScope s_chain_of)) (own := [("each", 2)]) (by decide +kernel)) (fun _ _ _ _ _ => (pg_name (i := 2) sc_chain_of.nd rfl (by first | exact Or.inl rfl | exact Or.inr rfl))) (tgc_name 2 (by decide)) (fun _ _ _ _ _ => (pts_one (pt_cmpM (op_neM (hu64 hr)) ok_ne (pm_v 2) (pm_v 0)))) (fun _ _ _ h => h) (fun _ _ _ _ _ => (pm_v 2))) (pms_one (pm_ret (pm_tup (pm_cons (pm_ix ix_seq ok_ix (pm_v 1) pm_int) (pm_cons (pm_v 0) (pm_cons (pm_ix ix_seq ok_ix (pm_v 1) pm_int) pm_nil))))))) fa fd F
theorem wk_chain_of (T : Txt P K mg base cl co Pt) : CalG P w K mg base cl 1 "chain_of" 1 m_chain_of := calG_of T.a_chain_of (binds_of fun _ _ _ _ _ _ us hl => match us, hl with | [_], _ => rfl) (wf_chain_of T)
theorem wf_is_in_pairs (T : Txt P K mg base cl co Pt) (fa : Addr) (fd : FuncData) (F : Fun K "is_in_pairs" "is_in_pairs" s_is_in_pairs fa fd) : FnG P w K mg base 2 fa fd ["word", "pair"] (spF K cl 2 m_is_in_pairs) :=
  fnD (b := b_is_in_pairs) sc_is_in_pairs (fun fa cdv A outer s H E g hr tk =>
    pms_cons (pm_asg (pm_v 1) (pg_any (n := 2) rfl (pgs_cons (pg_name (i := 3) sc_is_in_pairs.nd rfl (by first | exact Or.inl rfl | exact Or.inr rfl)) (pgs_cons (pg_name (i := 4) sc_is_in_pairs.nd rfl (by first | exact Or.inl rfl | exact Or.inr rfl)) pgs_nil))) (tg_any (tgs_cons (tg_name 3) (tgs_cons (tg_name 4) tgs_nil)))) (pms_cons (pm_ifs (pt_cmpM (op_eqM (hu64 hr)) ok_eq (pm_v 0) pm_str) (pms_one (pm_ret (pm_cmp (op_eqM (hu64 hr)) ok_eq (pm_v 4) (pm_op op_mod ok_fMod (pm_op op_addM (ok_add true) (pm_v 3) pm_int) pm_int)))) pms_nil) (pms_cons (pm_asg (pm_split true (pm_v 0) pm_str) (pg_any (n := 2) rfl (pgs_cons (pg_name (i := 5) sc_is_in_pairs.nd rfl (by first | exact Or.inl rfl | exact Or.inr rfl)) (pgs_cons (pg_name (i := 6) sc_is_in_pairs.nd rfl (by first | exact Or.inl rfl | exact Or.inr rfl)) pgs_nil))) (tg_any (tgs_cons (tg_name 5) (tgs_cons (tg_name 6) tgs_nil)))) (pms_cons (pm_ifs (pt_cmpM (op_eqM (hu64 hr)) ok_eq (pm_v 3) (pm_v 4)) (pms_one (pm_ret pm_bl)) pms_nil) (pms_cons (pm_ifs (pt_cmpM (op_eqM (hu64 hr)) ok_eq (pm_v 5) pm_str) (pms_one (pm_ret (pm_cmp (op_notInM (hu65 hr)) ok_notIn (pm_t call_intM (ok_int) T.z_int (by rfl) (pm_cons (pm_v 6) pm_nil)) (pm_v 1)))) pms_nil) (pms_cons (pm_ifs (pt_cmpM (op_eqM (hu64 hr)) ok_eq (pm_v 5) pm_str) (pms_one (pm_ret (pm_cmp (op_inM (hu65 hr)) ok_in (pm_t call_intM (ok_int) T.z_int (by rfl) (pm_cons (pm_v 6) pm_nil)) (pm_v 1)))) pms_nil) (pms_cons (pm_set 2 sc_is_in_pairs.nd (pm_call false (wk_chain_of T) hr g tk (by rfl) (pm_cons (pm_t call_intM (ok_int) T.z_int (by rfl) (pm_cons (pm_v 6) pm_nil)) pm_nil))) (pms_one (pm_ret (pm_cmp op_lt ok_fLt (pm_tindex (hu65 hr) (pm_v 2) (pm_v 3)) (pm_tindex (hu65 hr) (pm_v 2) (pm_v 4)))))))))))) fa fd F
theorem wk_is_in_pairs (T : Txt P K mg base cl co Pt) : CalG P w K mg base cl 2 "is_in_pairs" 2 m_is_in_pairs := calG_of T.a_is_in_pairs (binds_of fun _ _ _ _ _ _ us hl => match us, hl with | [_, _], _ => rfl) (wf_is_in_pairs T)
theorem wf_is_in (T : Txt P K mg base cl co Pt) (fa : Addr) (fd : FuncData) (F : Fun K "is_in" "is_in" s_is_in fa fd) : FnG P w K mg base 3 fa fd ["word", "some"] (spF K cl 2 m_is_in) :=
  fnD (b := b_is_in) sc_is_in (fun fa cdv A outer s H E g hr tk =>
    pms_cons (pm_ifs (pt_cmpM (op_eqM (hu64 hr)) ok_eq (pm_slice true (pm_v 0) po_n (po_e pm_int)) pm_str) (pms_one (pm_ret (pm_cmp (op_inM (hu65 hr)) ok_in (pm_t call_strM (ok_str) T.z_str (by rfl) (pm_cons (pm_ix ix_seq ok_ix (pm_v 1) pm_int) pm_nil)) (pm_slice true (pm_v 0) (po_e pm_int) po_n)))) pms_nil) (pms_cons (pm_ifs (pt_cmpM (op_eqM (hu64 hr)) ok_eq (pm_v 0) pm_str) (pms_one (pm_ret (pm_cmp (op_eqM (hu64 hr)) ok_eq (pm_op op_mod ok_fMod (pm_op op_sub ok_fSub (pm_op op_sub ok_fSub (pm_op op_addM (ok_add true) (pm_ix ix_seq ok_ix (pm_v 1) pm_int) (pm_ix ix_seq ok_ix (pm_v 1) pm_int)) (pm_ix ix_seq ok_ix (pm_v 1) pm_int)) (pm_ix ix_seq ok_ix (pm_v 1) pm_int)) pm_int) pm_int))) pms_nil) (pms_cons (pm_ifs (pt_cmpM (op_eqM (hu64 hr)) ok_eq (pm_v 0) pm_str) (pms_one (pm_ret (pm_cmp op_lt ok_fLt (pm_lenSet T.z_len T.z_set (pm_v 1) rfl) pm_int))) pms_nil) (pms_one (pm_ret (pm_call true (wk_is_in_pairs T) hr g tk (by rfl) (pm_cons (pm_v 0) (pm_cons (pm_v 1) pm_nil)))))))) fa fd F
theorem wk_is_in (T : Txt P K mg base cl co Pt) : CalG P w K mg base cl 3 "is_in" 2 m_is_in := calG_of T.a_is_in (binds_of fun _ _ _ _ _ _ us hl => match us, hl with | [_, _], _ => rfl) (wf_is_in T)
theorem wf_index_of (T : Txt P K mg base cl co Pt) (fa : Addr) (fd : FuncData) (F : Fun K "index_of" "index_of" s_index_of fa fd) : FnG P w K mg base 1 fa fd ["arguments"] (spF K cl 1 m_index_of) :=
  fnD (b := b_index_of) sc_index_of (fun fa cdv A outer s H E g hr tk =>
    pms_cons (pm_set 1 sc_index_of.nd pm_int) (pms_cons (pm_forV (passes_of rfl) rfl (pm_v 0) (pg_name (i := 2) sc_index_of.nd rfl (by first | exact Or.inl rfl | exact Or.inr rfl)) (tg_name 2) (pms_one (pm_set 1 sc_index_of.nd (pm_op op_addM (ok_add true) (pm_op op_mulM (ok_mul true) pm_int (pm_v 1)) (pm_v 2))))) (pms_one (pm_ret (pm_v 1))))) fa fd F
theorem wk_index_of (T : Txt P K mg base cl co Pt) : CalG P w K mg base cl 1 "index_of" 1 m_index_of := calG_of T.a_index_of (binds_of fun _ _ _ _ _ _ us hl => match us, hl with | [_], _ => rfl) (wf_index_of T)
theorem wf_value_at (T : Txt P K mg base cl co Pt) (fa : Addr) (fd : FuncData) (F : Fun K "value_at" "value_at" s_value_at fa fd) : FnG P w K mg base 2 fa fd ["table", "arguments"] (spF K cl 2 m_value_at) :=
  fnD (b := b_value_at) sc_value_at (fun fa cdv A outer s H E g hr tk =>
    pms_one (pm_ret (pm_t call_intM (ok_int) T.z_int (by rfl) (pm_cons (pm_ix ix_seq ok_ix (pm_v 0) (pm_call false (wk_index_of T) hr g tk (by rfl) (pm_cons (pm_v 1) pm_nil))) pm_nil)))) fa fd F
theorem wk_value_at (T : Txt P K mg base cl co Pt) : CalG P w K mg base cl 2 "value_at" 2 m_value_at := calG_of T.a_value_at (binds_of fun _ _ _ _ _ _ us hl => match us, hl with | [_, _], _ => rfl) (wf_value_at T)
theorem wf_made_by (T : Txt P K mg base cl co Pt) (fa : Addr) (fd : FuncData) (F : Fun K "made_by" "made_by" s_made_by fa fd) : FnG P w K mg base 3 fa fd ["table", "rows"] (spF K cl 2 m_made_by) :=
  fnD (b := b_made_by) sc_made_by (fun fa cdv A outer s H E g hr tk =>
    pms_one (pm_ret (pm_t call_tupleZ (ok_tuple) T.z_tuple (by rfl) (pm_cons (pm_lc true (own := [("at", 2)]) rfl sc_made_by.nd (pi_r1 T.z_range (pm_b (nm := "") call_len (ok_len) T.z_len (by rfl) (pm_cons (pm_ix ix_seq ok_ix (pm_v 1) pm_int) pm_nil))) (blkOk_by (N := N_made_by) (sc := (defScope s_made_by)) (own := [("at", 2)]) (by decide +kernel)) (fun _ _ _ _ _ => (pg_name (i := 2) sc_made_by.nd rfl (by first | exact Or.inl rfl | exact Or.inr rfl))) (tgc_name 2 (by decide)) (fun _ _ _ _ _ => pts_nil) (fun _ _ _ => tYes_ok) (fun _ _ _ _ _ => (pm_call false (wk_value_at T) hr g takes0 (by rfl) (pm_cons (pm_v 0) (pm_cons (pm_lcV true (own := [("row", 3)]) rfl sc_made_by.nd (pm_v 1) (blkOk_by (own := [("row", 3)]) (by rfl)) (fun _ _ _ _ _ => (pg_name (i := 3) sc_made_by.nd rfl (by first | exact Or.inl rfl | exact Or.inr rfl))) (tgc_name 3 (by decide)) (fun _ _ _ _ _ => pts_nil) (fun _ _ _ => tYes_ok) (fun _ _ _ _ _ => (pm_ix ix_seq ok_ix (pm_v 3) (pm_v 2)))) pm_nil))))) pm_nil)))) fa fd F
theorem wk_made_by (T : Txt P K mg base cl co Pt) : CalG P w K mg base cl 3 "made_by" 2 m_made_by := calG_of T.a_made_by (binds_of fun _ _ _ _ _ _ us hl => match us, hl with | [_, _], _ => rfl) (wf_made_by T)
theorem wf_size_of (T : Txt P K mg base cl co Pt) (fa : Addr) (fd : FuncData) (F : Fun K "size_of" "size_of" s_size_of fa fd) : FnG P w K mg base 1 fa fd ["count"] (spF K cl 1 m_size_of) :=
  fnD (b := b_size_of) sc_size_of (fun fa cdv A outer s H E g hr tk =>
    pms_cons (pm_set 1 sc_size_of.nd pm_int) (pms_cons (pm_for (passes_of rfl) rfl (pi_r1 T.z_range (pm_v 0)) (pg_name (i := 2) sc_size_of.nd rfl (by first | exact Or.inl rfl | exact Or.inr rfl)) (tg_name 2) (pms_one (pm_set 1 sc_size_of.nd (pm_op op_mulM (ok_mul true) (pm_v 1) pm_int)))) (pms_one (pm_ret (pm_v 1))))) fa fd F
theorem wk_size_of (T : Txt P K mg base cl co Pt) : CalG P w K mg base cl 1 "size_of" 1 m_size_of := calG_of T.a_size_of (binds_of fun _ _ _ _ _ _ us hl => match us, hl with | [_], _ => rfl) (wf_size_of T)
theorem wf_places_of (T : Txt P K mg base cl co Pt) (fa : Addr) (fd : FuncData) (F : Fun K "places_of" "places_of" s_places_of fa fd) : FnG P w K mg base 2 fa fd ["table"] (spF K cl 1 m_places_of) :=
  fnD (b := b_places_of) sc_places_of (fun fa cdv A outer s H E g hr tk =>
    pms_one (pm_ret (pm_ix ix_seq ok_ix (pm_lc true (own := [("count", 1)]) rfl sc_places_of.nd (pi_r1 T.z_range (pm_g (by exact T.g_MOST_PLACES) (fun _ _ => r_MOST_PLACES))) (blkOk_by (N := N_places_of) (sc := (defScope s_places_of)) (own := [("count", 1)]) (by decide +kernel)) (fun _ _ _ _ _ => (pg_name (i := 1) sc_places_of.nd rfl (by first | exact Or.inl rfl | exact Or.inr rfl))) (tgc_name 1 (by decide)) (fun _ _ _ _ _ => (pts_one (pt_cmpM (op_eqM (hu64 hr)) ok_eq (pm_call false (wk_size_of T) hr g takes0 (by rfl) (pm_cons (pm_op op_addM (ok_add true) (pm_v 1) pm_int) pm_nil)) (pm_b (nm := "") call_len (ok_len) T.z_len (by rfl) (pm_cons (pm_v 0) pm_nil))))) (fun _ _ _ h => h) (fun _ _ _ _ _ => (pm_op op_addM (ok_add true) (pm_v 1) pm_int))) pm_int))) fa fd F
theorem wk_places_of (T : Txt P K mg base cl co Pt) : CalG P w K mg base cl 2 "places_of" 1 m_places_of := calG_of T.a_places_of (binds_of fun _ _ _ _ _ _ us hl => match us, hl with | [_], _ => rfl) (wf_places_of T)
theorem wf_length_of (T : Txt P K mg base cl co Pt) (fa : Addr) (fd : FuncData) (F : Fun K "length_of" "length_of" s_length_of fa fd) : FnG P w K mg base 1 fa fd ["word"] (spF K cl 1 m_length_of) :=
  fnD (b := b_length_of) sc_length_of (fun fa cdv A outer s H E g hr tk =>
    pms_cons (pm_ifs (pt_cmpM (op_eqM (hu64 hr)) ok_eq (pm_slice true (pm_v 0) po_n (po_e pm_int)) pm_str) (pms_one (pm_ret pm_int)) pms_nil) (pms_one (pm_ret (pm_dgetC [("sums", 4), ("mixed", 3)] (hu1 hr) (pps_cons pe_str pe_int (pps_cons pe_str pe_int pps_nil)) (pm_v 0) pm_int ⟨rfl, rfl, rfl, rfl⟩)))) fa fd F
theorem wk_length_of (T : Txt P K mg base cl co Pt) : CalG P w K mg base cl 1 "length_of" 1 m_length_of := calG_of T.a_length_of (binds_of fun _ _ _ _ _ _ us hl => match us, hl with | [_], _ => rfl) (wf_length_of T)
theorem wf_relation_of (T : Txt P K mg base cl co Pt) (fa : Addr) (fd : FuncData) (F : Fun K "relation_of" "relation_of" s_relation_of fa fd) : FnG P w K mg base 4 fa fd ["word"] (spF K cl 1 m_relation_of) :=
  fnD (b := b_relation_of) sc_relation_of (fun fa cdv A outer s H E g hr tk =>
    pms_one (pm_ret (pm_lc false (own := [("some", 1)]) rfl sc_relation_of.nd (pi_v (pm_call false (wk_all_arguments T) hr g tk (by rfl) (pm_cons (pm_call false (wk_length_of T) hr g tk (by rfl) (pm_cons (pm_v 0) pm_nil)) pm_nil))) (blkOk_by (N := N_relation_of) (sc := (defScope s_relation_of)) (own := [("some", 1)]) (by decide +kernel)) (fun _ _ _ _ _ => (pg_name (i := 1) sc_relation_of.nd rfl (by first | exact Or.inl rfl | exact Or.inr rfl))) (tgc_name 1 (by decide)) (fun _ _ _ _ _ => (pts_one (pt_truM (pm_call false (wk_is_in T) hr g takes0 (by rfl) (pm_cons (pm_v 0) (pm_cons (pm_v 1) pm_nil)))))) (fun _ _ _ h => h) (fun _ _ _ _ _ => (pm_v 1))))) fa fd F
theorem wk_relation_of (T : Txt P K mg base cl co Pt) : CalG P w K mg base cl 4 "relation_of" 1 m_relation_of := calG_of T.a_relation_of (binds_of fun _ _ _ _ _ _ us hl => match us, hl with | [_], _ => rfl) (wf_relation_of T)
theorem wf_out_of (T : Txt P K mg base cl co Pt) (fa : Addr) (fd : FuncData) (F : Fun K "out_of" "out_of" s_out_of fa fd) : FnG P w K mg base 9 fa fd ["table", "word"] (spF K cl 2 m_out_of) :=
  fnD (b := b_out_of) sc_out_of (fun fa cdv A outer s H E g hr tk =>
    pms_cons (pm_set 2 sc_out_of.nd (pm_call false (wk_relation_of T) hr g tk (by rfl) (pm_cons (pm_v 1) pm_nil))) (pms_cons (pm_forG (passes_of rfl) xback_cx (wg_all_rows T) hr g (by rfl) (pm_cons (pm_v 2) (pm_cons (pm_call false (wk_places_of T) hr g tk (by rfl) (pm_cons (pm_v 0) pm_nil)) pm_nil)) (pg_name (i := 3) sc_out_of.nd rfl (by first | exact Or.inl rfl | exact Or.inr rfl)) (tg_name 3) (pms_one (pm_ifs (pt_notM (pt_truM (pm_call false (wk_is_in T) hr g tk (by rfl) (pm_cons (pm_v 1) (pm_cons (pm_call false (wk_made_by T) hr g tk (by rfl) (pm_cons (pm_v 0) (pm_cons (pm_v 3) pm_nil))) pm_nil))))) (pms_one (pm_ret (pm_v 3))) pms_nil))) (pms_one (pm_ret pm_non)))) fa fd F
theorem wk_out_of (T : Txt P K mg base cl co Pt) : CalG P w K mg base cl 9 "out_of" 2 m_out_of := calG_of T.a_out_of (binds_of fun _ _ _ _ _ _ us hl => match us, hl with | [_, _], _ => rfl) (wf_out_of T)
theorem wf_is_kept (T : Txt P K mg base cl co Pt) (fa : Addr) (fd : FuncData) (F : Fun K "is_kept" "is_kept" s_is_kept fa fd) : FnG P w K mg base 10 fa fd ["table", "word"] (spF K cl 2 m_is_kept) :=
  fnD (b := b_is_kept) sc_is_kept (fun fa cdv A outer s H E g hr tk =>
    pms_one (pm_ret (pm_cmp op_isN ok_isN (pm_call false (wk_out_of T) hr g tk (by rfl) (pm_cons (pm_v 0) (pm_cons (pm_v 1) pm_nil))) pm_non))) fa fd F
theorem wk_is_kept (T : Txt P K mg base cl co Pt) : CalG P w K mg base cl 10 "is_kept" 2 m_is_kept := calG_of T.a_is_kept (binds_of fun _ _ _ _ _ _ us hl => match us, hl with | [_, _], _ => rfl) (wf_is_kept T)
theorem wf_keepers_of (T : Txt P K mg base cl co Pt) (fa : Addr) (fd : FuncData) (F : Fun K "keepers_of" "keepers_of" s_keepers_of fa fd) : FnG P w K mg base 11 fa fd ["word"] (spF K cl 1 m_keepers_of) :=
  fnD (b := b_keepers_of) sc_keepers_of (fun fa cdv A outer s H E g hr tk =>
    pms_one (pm_ret (pm_lc false (own := [("table", 1)]) rfl sc_keepers_of.nd (pi_v (pm_call0 false (wk_all_tables T) hr g tk (by rfl))) (blkOk_by (N := N_keepers_of) (sc := (defScope s_keepers_of)) (own := [("table", 1)]) (by decide +kernel)) (fun _ _ _ _ _ => (pg_name (i := 1) sc_keepers_of.nd rfl (by first | exact Or.inl rfl | exact Or.inr rfl))) (tgc_name 1 (by decide)) (fun _ _ _ _ _ => (pts_one (pt_truM (pm_call false (wk_is_kept T) hr g takes0 (by rfl) (pm_cons (pm_v 1) (pm_cons (pm_v 0) pm_nil)))))) (fun _ _ _ h => h) (fun _ _ _ _ _ => (pm_v 1))))) fa fd F
theorem wk_keepers_of (T : Txt P K mg base cl co Pt) : CalG P w K mg base cl 11 "keepers_of" 1 m_keepers_of := calG_of T.a_keepers_of (binds_of fun _ _ _ _ _ _ us hl => match us, hl with | [_], _ => rfl) (wf_keepers_of T)
theorem wf_keepers (T : Txt P K mg base cl co Pt) (fa : Addr) (fd : FuncData) (F : Fun K "keepers" "keepers" s_keepers fa fd) : FnG P w K mg base 12 fa fd ["word"] (spF K cl 1 m_keepers) :=
  fnD (b := b_keepers) sc_keepers (fun fa cdv A outer s H E g hr tk =>
    pms_cons (pm_exp (pm_call false (wk_check_word T) hr g tk (by rfl) (pm_cons (pm_v 0) pm_nil))) (pms_one (pm_ret (pm_t call_tupleZ (ok_tuple) T.z_tuple (by rfl) (pm_cons (pm_call false (wk_keepers_of T) hr g tk (by rfl) (pm_cons (pm_v 0) pm_nil)) pm_nil))))) fa fd F
theorem wk_keepers (T : Txt P K mg base cl co Pt) : CalG P w K mg base cl 12 "keepers" 1 m_keepers := calG_of T.a_keepers (binds_of fun _ _ _ _ _ _ us hl => match us, hl with | [_], _ => rfl) (wf_keepers T)
theorem wf_is_table (T : Txt P K mg base cl co Pt) (fa : Addr) (fd : FuncData) (F : Fun K "is_table" "is_table" s_is_table fa fd) : FnG P w K mg base 2 fa fd ["value"] (spF K cl 1 m_is_table) :=
  fnD (b := b_is_table) sc_is_table (fun fa cdv A outer s H E g hr tk =>
    pms_cons (pm_ifs (PW.pt (pw_orM (pt_notM (pt_truM (pm_isi T.i_str (pm_v 0) T.z_isinstance T.z_str (by rfl)))) (pw_or1M (pt_cmpM (op_notInM (hu65 hr)) ok_notIn (pm_b (nm := "") call_len (ok_len) T.z_len (by rfl) (pm_cons (pm_v 0) pm_nil)) (pm_lc true (own := [("count", 2)]) rfl sc_is_table.nd (pi_r1 T.z_range (pm_g (by exact T.g_MOST_PLACES) (fun _ _ => r_MOST_PLACES))) (blkOk_by (N := N_is_table) (sc := (defScope s_is_table)) (own := [("count", 2)]) (by decide +kernel)) (fun _ _ _ _ _ => (pg_name (i := 2) sc_is_table.nd rfl (by first | exact Or.inl rfl | exact Or.inr rfl))) (tgc_name 2 (by decide)) (fun _ _ _ _ _ => pts_nil) (fun _ _ _ => tYes_ok) (fun _ _ _ _ _ => (pm_call false (wk_size_of T) hr g takes0 (by rfl) (pm_cons (pm_op op_addM (ok_add true) (pm_v 2) pm_int) pm_nil)))))))) (pms_one (pm_ret pm_bl)) pms_nil) (pms_one (pm_ret (pm_b (nm := "") (cr_all rfl) (ok_all) T.z_all (by rfl) (pm_cons (pm_lcV true (own := [("sign", 1)]) rfl sc_is_table.nd (pm_v 0) (blkOk_by (N := N_is_table) (sc := (defScope s_is_table)) (own := [("sign", 1)]) (by decide +kernel)) (fun _ _ _ _ _ => (pg_name (i := 1) sc_is_table.nd rfl (by first | exact Or.inl rfl | exact Or.inr rfl))) (tgc_name 1 (by decide)) (fun _ _ _ _ _ => pts_nil) (fun _ _ _ => tYes_ok) (fun _ _ _ _ _ => (pm_cmp (op_inM (hu65 hr)) ok_in (pm_v 1) (pm_g (by exact T.g_DIGITS) (fun _ _ => r_DIGITS))))) pm_nil))))) fa fd F
theorem wk_is_table (T : Txt P K mg base cl co Pt) : CalG P w K mg base cl 2 "is_table" 1 m_is_table := calG_of T.a_is_table (binds_of fun _ _ _ _ _ _ us hl => match us, hl with | [_], _ => rfl) (wf_is_table T)
theorem wf_check_table (T : Txt P K mg base cl co Pt) (fa : Addr) (fd : FuncData) (F : Fun K "check_table" "check_table" s_check_table fa fd) : FnG P w K mg base 3 fa fd ["table"] (spF K cl 1 m_check_table) :=
  fnD (b := b_check_table) sc_check_table (fun fa cdv A outer s H E g hr tk =>
    pms_one (pm_ifs (pt_notM (pt_truM (pm_call false (wk_is_table T) hr g tk (by rfl) (pm_cons (pm_v 0) pm_nil)))) (pms_one (pm_raiseE 2 T.er (by decide) T.x_InvalidTable (.inl rfl) hr tk T.noS (pm_v 0))) pms_nil)) fa fd F
theorem wk_check_table (T : Txt P K mg base cl co Pt) : CalG P w K mg base cl 3 "check_table" 1 m_check_table := calG_of T.a_check_table (binds_of fun _ _ _ _ _ _ us hl => match us, hl with | [_], _ => rfl) (wf_check_table T)
theorem wf_keeps (T : Txt P K mg base cl co Pt) (fa : Addr) (fd : FuncData) (F : Fun K "keeps" "keeps" s_keeps fa fd) : FnG P w K mg base 11 fa fd ["table", "word"] (spF K cl 2 m_keeps) :=
  fnD (b := b_keeps) sc_keeps (fun fa cdv A outer s H E g hr tk =>
    pms_cons (pm_exp (pm_call false (wk_check_table T) hr g tk (by rfl) (pm_cons (pm_v 0) pm_nil))) (pms_cons (pm_exp (pm_call false (wk_check_word T) hr g tk (by rfl) (pm_cons (pm_v 1) pm_nil))) (pms_one (pm_ret (pm_call true (wk_is_kept T) hr g tk (by rfl) (pm_cons (pm_v 0) (pm_cons (pm_v 1) pm_nil))))))) fa fd F
theorem wk_keeps (T : Txt P K mg base cl co Pt) : CalG P w K mg base cl 11 "keeps" 2 m_keeps := calG_of T.a_keeps (binds_of fun _ _ _ _ _ _ us hl => match us, hl with | [_, _], _ => rfl) (wf_keeps T)
theorem wf_words_of (T : Txt P K mg base cl co Pt) (fa : Addr) (fd : FuncData) (F : Fun K "words_of" "words_of" s_words_of fa fd) : FnG P w K mg base 11 fa fd ["table"] (spF K cl 1 m_words_of) :=
  fnD (b := b_words_of) sc_words_of (fun fa cdv A outer s H E g hr tk =>
    pms_one (pm_ret (pm_t call_tupleZ (ok_tuple) T.z_tuple (by rfl) (pm_cons (pm_lc true (own := [("word", 1)]) rfl sc_words_of.nd (pi_v (pm_gT T.g_WORDS rfl)) (blkOk_by (N := N_words_of) (sc := (defScope s_words_of)) (own := [("word", 1)]) (by decide +kernel)) (fun _ _ _ _ _ => (pg_name (i := 1) sc_words_of.nd rfl (by first | exact Or.inl rfl | exact Or.inr rfl))) (tgc_name 1 (by decide)) (fun _ _ _ _ _ => (pts_one (pt_truM (pm_call false (wk_is_kept T) hr g takes0 (by rfl) (pm_cons (pm_v 0) (pm_cons (pm_v 1) pm_nil)))))) (fun _ _ _ h => h) (fun _ _ _ _ _ => (pm_v 1))) pm_nil)))) fa fd F
theorem wk_words_of (T : Txt P K mg base cl co Pt) : CalG P w K mg base cl 11 "words_of" 1 m_words_of := calG_of T.a_words_of (binds_of fun _ _ _ _ _ _ us hl => match us, hl with | [_], _ => rfl) (wf_words_of T)
theorem wf_kept_by (T : Txt P K mg base cl co Pt) (fa : Addr) (fd : FuncData) (F : Fun K "kept_by" "kept_by" s_kept_by fa fd) : FnG P w K mg base 12 fa fd ["table"] (spF K cl 1 m_kept_by) :=
  fnD (b := b_kept_by) sc_kept_by (fun fa cdv A outer s H E g hr tk =>
    pms_cons (pm_exp (pm_call false (wk_check_table T) hr g tk (by rfl) (pm_cons (pm_v 0) pm_nil))) (pms_one (pm_ret (pm_call true (wk_words_of T) hr g tk (by rfl) (pm_cons (pm_v 0) pm_nil))))) fa fd F
theorem wk_kept_by (T : Txt P K mg base cl co Pt) : CalG P w K mg base cl 12 "kept_by" 1 m_kept_by := calG_of T.a_kept_by (binds_of fun _ _ _ _ _ _ us hl => match us, hl with | [_], _ => rfl) (wf_kept_by T)
theorem wf_leads_out (T : Txt P K mg base cl co Pt) (fa : Addr) (fd : FuncData) (F : Fun K "leads_out" "leads_out" s_leads_out fa fd) : FnG P w K mg base 10 fa fd ["table", "word"] (spF K cl 2 m_leads_out) :=
  fnD (b := b_leads_out) sc_leads_out (fun fa cdv A outer s H E g hr tk =>
    pms_cons (pm_exp (pm_call false (wk_check_table T) hr g tk (by rfl) (pm_cons (pm_v 0) pm_nil))) (pms_cons (pm_exp (pm_call false (wk_check_word T) hr g tk (by rfl) (pm_cons (pm_v 1) pm_nil))) (pms_one (pm_ret (pm_call true (wk_out_of T) hr g tk (by rfl) (pm_cons (pm_v 0) (pm_cons (pm_v 1) pm_nil))))))) fa fd F
theorem wk_leads_out (T : Txt P K mg base cl co Pt) : CalG P w K mg base cl 10 "leads_out" 2 m_leads_out := calG_of T.a_leads_out (binds_of fun _ _ _ _ _ _ us hl => match us, hl with | [_, _], _ => rfl) (wf_leads_out T)
theorem wf_table_of_number (T : Txt P K mg base cl co Pt) (fa : Addr) (fd : FuncData) (F : Fun K "table_of_number" "table_of_number" s_table_of_number fa fd) : FnG P w K mg base 2 fa fd ["number"] (spF K cl 1 m_table_of_number) :=
  fnD (b := b_table_of_number) sc_table_of_number (fun fa cdv A outer s H E g hr tk =>
    pms_cons (pm_set 1 sc_table_of_number.nd (pm_lst false pm_nil)) (pms_cons (pm_for (passes_of rfl) rfl (pi_r1 T.z_range pm_int) (pg_name (i := 2) sc_table_of_number.nd rfl (by first | exact Or.inl rfl | exact Or.inr rfl)) (tg_name 2) (pms_cons (pm_exp (pm_append (pm_v 1) (pm_op op_mod ok_fMod (pm_v 0) pm_int))) (pms_one (pm_set 0 sc_table_of_number.nd (pm_op op_fdiv ok_fFdv (pm_v 0) pm_int))))) (pms_one (pm_ret (pm_call true (wk_table_from T) hr g tk (by rfl) (pm_cons (pm_rev2 true (pm_v 1)) pm_nil)))))) fa fd F
theorem wk_table_of_number (T : Txt P K mg base cl co Pt) : CalG P w K mg base cl 2 "table_of_number" 1 m_table_of_number := calG_of T.a_table_of_number (binds_of fun _ _ _ _ _ _ us hl => match us, hl with | [_], _ => rfl) (wf_table_of_number T)
theorem wf_least_breaker (T : Txt P K mg base cl co Pt) (fa : Addr) (fd : FuncData) (F : Fun K "least_breaker" "least_breaker" s_least_breaker fa fd) : FnG P w K mg base 11 fa fd ["word"] (spF K cl 1 m_least_breaker) :=
  fnD (b := b_least_breaker) sc_least_breaker (fun fa cdv A outer s H E g hr tk =>
    pms_cons (pm_exp (pm_call false (wk_check_word T) hr g tk (by rfl) (pm_cons (pm_v 0) pm_nil))) (pms_cons (pm_for (passes_of rfl) rfl (pi_v (pm_call0 false (wk_all_tables T) hr g tk (by rfl))) (pg_name (i := 1) sc_least_breaker.nd rfl (by first | exact Or.inl rfl | exact Or.inr rfl)) (tg_name 1) (pms_one (pm_ifs (pt_notM (pt_truM (pm_call false (wk_is_kept T) hr g tk (by rfl) (pm_cons (pm_v 1) (pm_cons (pm_v 0) pm_nil))))) (pms_one (pm_ret (pm_v 1))) pms_nil))) (pms_cons (pm_set 2 sc_least_breaker.nd pm_int) (pms_cons (pm_while 200 (passes_of rfl) (pt_truM (pm_call false (wk_is_kept T) hr g tk (by rfl) (pm_cons (pm_call false (wk_table_of_number T) hr g tk (by rfl) (pm_cons (pm_v 2) pm_nil)) (pm_cons (pm_v 0) pm_nil)))) (pms_one (pm_augI (i := 2) sc_least_breaker.nd pm_int))) (pms_one (pm_ret (pm_call true (wk_table_of_number T) hr g tk (by rfl) (pm_cons (pm_v 2) pm_nil)))))))) fa fd F
theorem wk_least_breaker (T : Txt P K mg base cl co Pt) : CalG P w K mg base cl 11 "least_breaker" 1 m_least_breaker := calG_of T.a_least_breaker (binds_of fun _ _ _ _ _ _ us hl => match us, hl with | [_], _ => rfl) (wf_least_breaker T)
theorem wf_relation (T : Txt P K mg base cl co Pt) (fa : Addr) (fd : FuncData) (F : Fun K "relation" "relation" s_relation fa fd) : FnG P w K mg base 5 fa fd ["word"] (spF K cl 1 m_relation) :=
  fnD (b := b_relation) sc_relation (fun fa cdv A outer s H E g hr tk =>
    pms_cons (pm_exp (pm_call false (wk_check_word T) hr g tk (by rfl) (pm_cons (pm_v 0) pm_nil))) (pms_one (pm_ret (pm_t call_tupleZ (ok_tuple) T.z_tuple (by rfl) (pm_cons (pm_call false (wk_relation_of T) hr g tk (by rfl) (pm_cons (pm_v 0) pm_nil)) pm_nil))))) fa fd F
theorem wk_relation (T : Txt P K mg base cl co Pt) : CalG P w K mg base cl 5 "relation" 1 m_relation := calG_of T.a_relation (binds_of fun _ _ _ _ _ _ us hl => match us, hl with | [_], _ => rfl) (wf_relation T)
theorem wf_is_integer (T : Txt P K mg base cl co Pt) (fa : Addr) (fd : FuncData) (F : Fun K "is_integer" "is_integer" s_is_integer fa fd) : FnG P w K mg base 1 fa fd ["value"] (spF K cl 1 m_is_integer) :=
  fnD (b := b_is_integer) sc_is_integer (fun fa cdv A outer s H E g hr tk =>
    pms_one (pm_ret (pm_and (pm_isi T.i_int (pm_v 0) T.z_isinstance T.z_int (by rfl)) (pm_one (pm_not (pm_isi T.i_bool (pm_v 0) T.z_isinstance T.z_bool (by rfl))))))) fa fd F
theorem wk_is_integer (T : Txt P K mg base cl co Pt) : CalG P w K mg base cl 1 "is_integer" 1 m_is_integer := calG_of T.a_is_integer (binds_of fun _ _ _ _ _ _ us hl => match us, hl with | [_], _ => rfl) (wf_is_integer T)
theorem wf_is_between (T : Txt P K mg base cl co Pt) (fa : Addr) (fd : FuncData) (F : Fun K "is_between" "is_between" s_is_between fa fd) : FnG P w K mg base 2 fa fd ["value", "least", "most"] (spF K cl 3 m_is_between) :=
  fnD (b := b_is_between) sc_is_between (fun fa cdv A outer s H E g hr tk =>
    pms_one (pm_ret (pm_and (pm_call false (wk_is_integer T) hr g tk (by rfl) (pm_cons (pm_v 0) pm_nil)) (pm_one (pm_chain op_le op_le ok_fLe ok_fLe (pm_v 1) (pm_v 0) (pm_v 2)))))) fa fd F
theorem wk_is_between (T : Txt P K mg base cl co Pt) : CalG P w K mg base cl 2 "is_between" 3 m_is_between := calG_of T.a_is_between (binds_of fun _ _ _ _ _ _ us hl => match us, hl with | [_, _, _], _ => rfl) (wf_is_between T)
theorem wf_check_order (T : Txt P K mg base cl co Pt) (fa : Addr) (fd : FuncData) (F : Fun K "check_order" "check_order" s_check_order fa fd) : FnG P w K mg base 3 fa fd ["count", "order"] (spF K cl 2 m_check_order) :=
  fnD (b := b_check_order) sc_check_order (fun fa cdv A outer s H E g hr tk =>
    pms_cons (pm_ifs (PW.pt (pw_orM (pt_notM (pt_truM (pm_isi T.i_tuple (pm_v 1) T.z_isinstance T.z_tuple (by rfl)))) (pw_or1M (pt_notM (pt_truM (pm_b (nm := "") (cr_all rfl) (ok_all) T.z_all (by rfl) (pm_cons (pm_lcV true (own := [("each", 2)]) rfl sc_check_order.nd (pm_v 1) (blkOk_by (N := N_check_order) (sc := (defScope s_check_order)) (own := [("each", 2)]) (by decide +kernel)) (fun _ _ _ _ _ => (pg_name (i := 2) sc_check_order.nd rfl (by first | exact Or.inl rfl | exact Or.inr rfl))) (tgc_name 2 (by decide)) (fun _ _ _ _ _ => pts_nil) (fun _ _ _ => tYes_ok) (fun _ _ _ _ _ => (pm_call false (wk_is_between T) hr g takes0 (by rfl) (pm_cons (pm_v 2) (pm_cons pm_int (pm_cons (pm_op op_sub ok_fSub (pm_v 0) pm_int) pm_nil)))))) pm_nil))))))) (pms_one (pm_raiseE 6 T.er (by decide) T.x_InvalidOrder (.inl rfl) hr tk T.noS (pm_v 1))) pms_nil) (pms_one (pm_ifs (pt_cmpM (op_neM (hu64 hr)) ok_ne (pm_b (nm := "") cr_sortedI (ok_sortI) T.z_sorted (by rfl) (pm_cons (pm_lcV true (own := [("each", 2)]) rfl sc_check_order.nd (pm_v 1) (blkOk_by (N := N_check_order) (sc := (defScope s_check_order)) (own := [("each", 2)]) (by decide +kernel)) (fun _ _ _ _ _ => (pg_name (i := 2) sc_check_order.nd rfl (by first | exact Or.inl rfl | exact Or.inr rfl))) (tgc_name 2 (by decide)) (fun _ _ _ _ _ => pts_nil) (fun _ _ _ => tYes_ok) (fun _ _ _ _ _ => (pm_t call_intM (ok_int) T.z_int (by rfl) (pm_cons (pm_v 2) pm_nil)))) pm_nil)) (pm_listR true T.z_list T.z_range (pm_v 0) rfl)) (pms_one (pm_raiseE 6 T.er (by decide) T.x_InvalidOrder (.inl rfl) hr tk T.noS (pm_v 1))) pms_nil))) fa fd F
theorem wk_check_order (T : Txt P K mg base cl co Pt) : CalG P w K mg base cl 3 "check_order" 2 m_check_order := calG_of T.a_check_order (binds_of fun _ _ _ _ _ _ us hl => match us, hl with | [_, _], _ => rfl) (wf_check_order T)
theorem wf_renamed_word_of (T : Txt P K mg base cl co Pt) (fa : Addr) (fd : FuncData) (F : Fun K "renamed_word_of" "renamed_word_of" s_renamed_word_of fa fd) : FnG P w K mg base 1 fa fd ["word", "order"] (spF K cl 2 m_renamed_word_of) :=
  fnD (b := b_renamed_word_of) sc_renamed_word_of (fun fa cdv A outer s H E g hr tk =>
    pms_cons (pm_ifs (pt_cmpM (op_inM (hu65 hr)) ok_in (pm_v 0) (pm_tup (pm_cons pm_str (pm_cons pm_str (pm_cons pm_str pm_nil))))) (pms_one (pm_ret (pm_v 0))) pms_nil) (pms_cons (pm_asg (pm_split true (pm_v 0) pm_str) (pg_any (n := 2) rfl (pgs_cons (pg_name (i := 2) sc_renamed_word_of.nd rfl (by first | exact Or.inl rfl | exact Or.inr rfl)) (pgs_cons (pg_name (i := 3) sc_renamed_word_of.nd rfl (by first | exact Or.inl rfl | exact Or.inr rfl)) pgs_nil))) (tg_any (tgs_cons (tg_name 2) (tgs_cons (tg_name 3) tgs_nil)))) (pms_cons (pm_ifs (pt_cmpM (op_eqM (hu64 hr)) ok_eq (pm_v 2) pm_str) (pms_one (pm_ret (pm_op op_addM (ok_add false) pm_str (pm_join pm_str (pm_b (nm := "") (call_sortedX (hu70 hr)) (ok_sortD) T.z_sorted (by rfl) (pm_cons (pm_lcV true (own := [("sign", 4)]) rfl sc_renamed_word_of.nd (pm_v 3) (blkOk_by (N := N_renamed_word_of) (sc := (defScope s_renamed_word_of)) (own := [("sign", 4)]) (by decide +kernel)) (fun _ _ _ _ _ => (pg_name (i := 4) sc_renamed_word_of.nd rfl (by first | exact Or.inl rfl | exact Or.inr rfl))) (tgc_name 4 (by decide)) (fun _ _ _ _ _ => pts_nil) (fun _ _ _ => tYes_ok) (fun _ _ _ _ _ => (pm_t call_strM (ok_str) T.z_str (by rfl) (pm_cons (pm_ix ix_seq ok_ix (pm_v 1) (pm_t call_intM (ok_int) T.z_int (by rfl) (pm_cons (pm_v 4) pm_nil))) pm_nil)))) pm_nil)))))) pms_nil) (pms_one (pm_ret (pm_js (cs := [cFv (cV 2), cS " ", cFv (cBin fIx (cV 1) (cB1 (fInt) (cCons (cV 3) (cNil))))]) (pj_cons (pm_fv (pm_v 2)) (pj_cons pm_str (pj_cons (pm_fv (pm_ix ix_seq ok_ix (pm_v 1) (pm_t call_intM (ok_int) T.z_int (by rfl) (pm_cons (pm_v 3) pm_nil)))) pj_nil))))))))) fa fd F
theorem wk_renamed_word_of (T : Txt P K mg base cl co Pt) : CalG P w K mg base cl 1 "renamed_word_of" 2 m_renamed_word_of := calG_of T.a_renamed_word_of (binds_of fun _ _ _ _ _ _ us hl => match us, hl with | [_, _], _ => rfl) (wf_renamed_word_of T)
theorem wf_renamed_word (T : Txt P K mg base cl co Pt) (fa : Addr) (fd : FuncData) (F : Fun K "renamed_word" "renamed_word" s_renamed_word fa fd) : FnG P w K mg base 4 fa fd ["word", "order"] (spF K cl 2 m_renamed_word) :=
  fnD (b := b_renamed_word) sc_renamed_word (fun fa cdv A outer s H E g hr tk =>
    pms_cons (pm_exp (pm_call false (wk_check_word T) hr g tk (by rfl) (pm_cons (pm_v 0) pm_nil))) (pms_cons (pm_exp (pm_call false (wk_check_order T) hr g tk (by rfl) (pm_cons pm_int (pm_cons (pm_v 1) pm_nil)))) (pms_one (pm_ret (pm_call true (wk_renamed_word_of T) hr g tk (by rfl) (pm_cons (pm_v 0) (pm_cons (pm_v 1) pm_nil))))))) fa fd F
theorem wk_renamed_word (T : Txt P K mg base cl co Pt) : CalG P w K mg base cl 4 "renamed_word" 2 m_renamed_word := calG_of T.a_renamed_word (binds_of fun _ _ _ _ _ _ us hl => match us, hl with | [_, _], _ => rfl) (wf_renamed_word T)
theorem tok_1 (T : Txt P K mg base cl co Pt) : ∀ i f, tbl_1 i = some f → 2000 ≤ i ∧ ∃ y, mg y = some (.ref (cl i)) ∧ CalG P w K mg base cl 12 y 1 f := by
  intro i f h
  unfold tbl_1 at h
  by_cases e : i = 2000
  · subst e; simp at h; subst h; exact ⟨by decide, "keepers", T.f_keepers, (wk_keepers T).up (by decide)⟩
  rw [if_neg e] at h; clear e
  by_cases e : i = 2001
  · subst e; simp at h; subst h; exact ⟨by decide, "least_breaker", T.f_least_breaker, (wk_least_breaker T).up (by decide)⟩
  rw [if_neg e] at h; clear e
  by_cases e : i = 2002
  · subst e; simp at h; subst h; exact ⟨by decide, "relation", T.f_relation, (wk_relation T).up (by decide)⟩
  rw [if_neg e] at h; clear e
  cases h
theorem tok_2 (T : Txt P K mg base cl co Pt) : ∀ i f, tbl_2 i = some f → 2000 ≤ i ∧ ∃ y, mg y = some (.ref (cl i)) ∧ CalG P w K mg base cl 11 y 2 f := by
  intro i f h
  unfold tbl_2 at h
  by_cases e : i = 2003
  · subst e; simp at h; subst h; exact ⟨by decide, "keeps", T.f_keeps, (wk_keeps T).up (by decide)⟩
  rw [if_neg e] at h; clear e
  by_cases e : i = 2004
  · subst e; simp at h; subst h; exact ⟨by decide, "leads_out", T.f_leads_out, (wk_leads_out T).up (by decide)⟩
  rw [if_neg e] at h; clear e
  cases h
theorem wf__law_right (T : Txt P K mg base cl co Pt) (fa : Addr) (fd : FuncData) (hm : mg "_law_right" = some (.ref fa)) (F : Fun K "_law_right" "_law_right" s__law_right fa fd) : FnG P w K mg base 15 fa fd ["spring"] (spF K cl 1 m__law_right) :=
  fnDT (b := b__law_right) T.hco sc__law_right (fun fa A outer s H E g hr tk =>
    pms_cons (pm_for (passes_of rfl) rfl (pi_r1 T.z_range pm_int) (pg_name (i := 1) sc__law_right.nd rfl (by first | exact Or.inl rfl | exact Or.inr rfl)) (tg_name 1) (pms_cons (pm_set 2 sc__law_right.nd (pm_call false (wk__law_table T) hr g tk (by rfl) (pm_cons (pm_v 0) (pm_cons (pm_op op_addM (ok_add true) pm_int (pm_call false (wk__law_draw T) hr g tk (by rfl) (pm_cons (pm_v 0) (pm_cons pm_int pm_nil)))) pm_nil)))) (pms_cons (pm_set 3 sc__law_right.nd (pm_call false (wk__law_of T) hr g tk (by rfl) (pm_cons (pm_v 0) (pm_cons (pm_lst true (pm_cons (pm_v 2) (pm_cons (pm_v 2) (pm_cons (pm_v 2) (pm_cons (pm_op op_addM (ok_add true) (pm_v 2) pm_str) (pm_cons (pm_slice true (pm_v 2) (po_e pm_int) po_n) (pm_cons (pm_op op_addM (ok_add true) (pm_slice true (pm_v 2) po_n (po_e (pm_un un_neg ok_neg pm_int))) pm_str) (pm_cons (pm_t (CallR.or call_list_of (CallR.or (call_list_txt rfl) (call_list_dK rfl))) (ok_list2 true) T.z_list (by rfl) (pm_cons (pm_v 2) pm_nil)) (pm_cons (pm_call false (wk__law_odd T) hr g tk (by rfl) (pm_cons (pm_v 0) pm_nil)) pm_nil))))))))) pm_nil)))) (pms_cons (pm_set 4 sc__law_right.nd (pm_lst true (pm_cons pm_str (pm_cons pm_str (pm_cons pm_str (pm_cons pm_str (pm_cons pm_str (pm_cons pm_str (pm_cons pm_str (pm_cons pm_str (pm_cons pm_str (pm_cons pm_str (pm_cons pm_non pm_nil))))))))))))) (pms_cons (pm_set 5 sc__law_right.nd (pm_call false (wk__law_of T) hr g tk (by rfl) (pm_cons (pm_v 0) (pm_cons (pm_op op_addM (ok_add true) (pm_op op_addM (ok_add true) (pm_call0 false (wk__law_all_words T) hr g tk (by rfl)) (pm_v 4)) (pm_lst true (pm_cons (pm_call false (wk__law_odd T) hr g tk (by rfl) (pm_cons (pm_v 0) pm_nil)) (pm_cons (pm_tup (pm_cons pm_str pm_nil)) (pm_cons pm_int (pm_cons pm_bl pm_nil)))))) pm_nil)))) (pms_cons (pm_set 6 sc__law_right.nd (pm_call false (wk__law_of T) hr g tk (by rfl) (pm_cons (pm_v 0) (pm_cons (pm_lst true (pm_cons (pm_tup (pm_cons pm_int (pm_cons pm_int (pm_cons pm_int pm_nil)))) (pm_cons (pm_tup (pm_cons pm_int (pm_cons pm_int (pm_cons pm_int pm_nil)))) (pm_cons (pm_tup (pm_cons pm_int (pm_cons pm_int pm_nil))) (pm_cons (pm_tup (pm_cons pm_int (pm_cons pm_int (pm_cons pm_int pm_nil)))) (pm_cons (pm_lst true (pm_cons pm_int (pm_cons pm_int (pm_cons pm_int pm_nil)))) (pm_cons (pm_tup (pm_cons pm_int (pm_cons pm_int (pm_cons pm_bl pm_nil)))) (pm_cons pm_non pm_nil)))))))) pm_nil)))) (pms_cons (pm_set 7 sc__law_right.nd (pm_and (pm_isi T.i_str (pm_v 3) T.z_isinstance T.z_str (by rfl)) (pm_and (pm_cmp (op_inM (hu65 hr)) ok_in (pm_b (nm := "") call_len (ok_len) T.z_len (by rfl) (pm_cons (pm_v 3) pm_nil)) (pm_lst true (pm_cons pm_int (pm_cons pm_int (pm_cons pm_int pm_nil))))) (pm_one (pm_b (nm := "") (cr_all rfl) (ok_all) T.z_all (by rfl) (pm_cons (pm_lcV true (own := [("sign", 14)]) rfl sc__law_right.nd (pm_v 3) (blkOk_by (N := N__law_right) (sc := (defScope s__law_right)) (own := [("sign", 14)]) (by decide +kernel)) (fun _ _ _ _ _ => (pg_name (i := 14) sc__law_right.nd rfl (by first | exact Or.inl rfl | exact Or.inr rfl))) (tgc_name 14 (by decide)) (fun _ _ _ _ _ => pts_nil) (fun _ _ _ => tYes_ok) (fun _ _ _ _ _ => (pm_cmp (op_inM (hu65 hr)) ok_in (pm_v 14) pm_str))) pm_nil)))))) (pms_cons (pm_set 7 sc__law_right.nd (pm_call false (wk__law_wrong T) hr g tk (by rfl) (pm_cons (pm_v 7) (pm_cons pm_str (pm_cons (pm_v 3) pm_nil))))) (pms_cons (pm_set 8 sc__law_right.nd (pm_call false (wk__law_wrong T) hr g tk (by rfl) (pm_cons (pm_and (pm_isi T.i_str (pm_v 5) T.z_isinstance T.z_str (by rfl)) (pm_one (pm_cmp (op_inM (hu65 hr)) ok_in (pm_v 5) (pm_call0 false (wk__law_all_words T) hr g tk (by rfl))))) (pm_cons pm_str (pm_cons (pm_v 5) pm_nil))))) (pms_cons (pm_set 9 sc__law_right.nd (pm_and (pm_isi T.i_tuple (pm_v 6) T.z_isinstance T.z_tuple (by rfl)) (pm_one (pm_b (nm := "") (cr_all rfl) (ok_all) T.z_all (by rfl) (pm_cons (pm_lcV true (own := [("each", 15)]) rfl sc__law_right.nd (pm_v 6) (blkOk_by (N := N__law_right) (sc := (defScope s__law_right)) (own := [("each", 15)]) (by decide +kernel)) (fun _ _ _ _ _ => (pg_name (i := 15) sc__law_right.nd rfl (by first | exact Or.inl rfl | exact Or.inr rfl))) (tgc_name 15 (by decide)) (fun _ _ _ _ _ => pts_nil) (fun _ _ _ => tYes_ok) (fun _ _ _ _ _ => (pm_call false (wk__law_is_whole T) hr g takes0 (by rfl) (pm_cons (pm_v 15) (pm_cons pm_int (pm_cons pm_int pm_nil)))))) pm_nil))))) (pms_cons (pm_set 9 sc__law_right.nd (pm_and (pm_v 9) (pm_one (pm_cmp (op_eqM (hu64 hr)) ok_eq (pm_b (nm := "") (call_sorted2 (hu70 hr)) (ok_sortD2) T.z_sorted (by rfl) (pm_cons (pm_v 6) pm_nil)) (pm_lst true (pm_cons pm_int (pm_cons pm_int (pm_cons pm_int pm_nil)))))))) (pms_cons (pm_set 9 sc__law_right.nd (pm_call false (wk__law_wrong T) hr g tk (by rfl) (pm_cons (pm_v 9) (pm_cons pm_str (pm_cons (pm_v 6) pm_nil))))) (pms_cons (pm_setLc false 10 (own := [("act", 13)]) rfl sc__law_right.nd (sw_true rfl rfl rfl (by decide +kernel)) (pi_v (pm_lst true (pm_cons (pm_fn (c := 2000) T.f_keepers) (pm_cons (pm_fn (c := 2001) T.f_least_breaker) (pm_cons (pm_fn (c := 2002) T.f_relation) pm_nil))))) (blkOk_by (N := N__law_right) (sc := (defScope s__law_right)) (own := [("act", 13)]) (by decide +kernel)) (fun _ _ _ _ _ => (pg_name (i := 13) sc__law_right.nd rfl (by first | exact Or.inl rfl | exact Or.inr rfl))) (tgc_name 13 (by decide)) (fun _ _ _ _ _ => pts_nil) (fun _ _ _ => tYes_ok) (fun _ _ _ _ _ => (pm_told T.a__law_told told_s (fun _ _ _ _ _ _ _ => rfl) (errF_ T) rfl T.tab rfl T.hT hr (by decide) g (LamX.lamS_by (by rfl)) rfl (fun _ _ _ _ _ => rfl) (fun A outer s H E f c1 g hr tk => (pm_callV false (pm_v 13) (tok_1 T) hr g tk (pm_cons (pm_v 5) pm_nil)))))) (pms_cons (pm_set 10 sc__law_right.nd (pm_op op_addM (ok_add false) (pm_v 10) (pm_lc true (own := [("act", 13)]) rfl sc__law_right.nd (pi_v (pm_lst true (pm_cons (pm_fn (c := 2003) T.f_keeps) (pm_cons (pm_fn (c := 2004) T.f_leads_out) pm_nil)))) (blkOk_by (N := N__law_right) (sc := (defScope s__law_right)) (own := [("act", 13)]) (by decide +kernel)) (fun _ _ _ _ _ => (pg_name (i := 13) sc__law_right.nd rfl (by first | exact Or.inl rfl | exact Or.inr rfl))) (tgc_name 13 (by decide)) (fun _ _ _ _ _ => pts_nil) (fun _ _ _ => tYes_ok) (fun _ _ _ _ _ => (pm_told T.a__law_told told_s (fun _ _ _ _ _ _ _ => rfl) (errF_ T) rfl T.tab rfl T.hT hr (by decide) g (LamX.lamS_by (by rfl)) rfl (fun _ _ _ _ _ => rfl) (fun A outer s H E f c1 g hr tk => (pm_callV false (pm_v 13) (tok_2 T) hr g tk (pm_cons (pm_v 3) (pm_cons (pm_v 5) pm_nil))))))))) (pms_cons (pm_exp (pm_append (pm_v 10) (pm_told T.a__law_told told_s (fun _ _ _ _ _ _ _ => rfl) (errF_ T) rfl T.tab rfl T.hT hr (by decide) g (LamX.lamS_by (by rfl)) rfl (fun _ _ _ _ _ => rfl) (fun A outer s H E f c1 g hr tk => (pm_call false (wk_kept_by T) hr g tk (by rfl) (pm_cons (pm_v 3) pm_nil)))))) (pms_cons (pm_exp (pm_append (pm_v 10) (pm_told T.a__law_told told_s (fun _ _ _ _ _ _ _ => rfl) (errF_ T) rfl T.tab rfl T.hT hr (by decide) g (LamX.lamS_by (by rfl)) rfl (fun _ _ _ _ _ => rfl) (fun A outer s H E f c1 g hr tk => (pm_call false (wk_renamed_word T) hr g tk (by rfl) (pm_cons (pm_v 5) (pm_cons (pm_v 6) pm_nil))))))) (pms_cons (pm_set 11 sc__law_right.nd (pm_op op_addM (ok_add true) (pm_op op_addM (ok_add true) (pm_op op_mulM (ok_mul true) (pm_lst true (pm_cons (pm_v 8) pm_nil)) pm_int) (pm_op op_mulM (ok_mul true) (pm_lst true (pm_cons (pm_call false (wk__law_first T) hr g tk (by rfl) (pm_cons (pm_lst true (pm_cons (pm_v 7) (pm_cons (pm_v 8) pm_nil))) pm_nil)) pm_nil)) pm_int)) (pm_lst true (pm_cons (pm_v 7) (pm_cons (pm_call false (wk__law_first T) hr g tk (by rfl) (pm_cons (pm_lst true (pm_cons (pm_v 8) (pm_cons (pm_v 9) pm_nil))) pm_nil)) pm_nil))))) (pms_one (pm_for (passes_of rfl) rfl (pi_r1 T.z_range pm_int) (pg_name (i := 12) sc__law_right.nd rfl (by first | exact Or.inl rfl | exact Or.inr rfl)) (tg_name 12) (pms_one (pm_ifs (PW.pt (pw_andM (pt_cmpM (op_neM (hu64 hr)) ok_ne (pm_ix ix_seq ok_ix (pm_v 10) (pm_v 12)) (pm_ix ix_seq ok_ix (pm_v 11) (pm_v 12))) (pw_and1M (PW.pt (pw_orM (pt_cmpM (op_neM (hu64 hr)) ok_ne (pm_ix ix_seq ok_ix (pm_v 11) (pm_v 12)) (pm_lst true pm_nil)) (pw_or1M (pt_cmpM (op_neM (hu64 hr)) ok_ne (pm_ix ix_seq ok_ix (pm_ix ix_seq ok_ix (pm_v 10) (pm_v 12)) pm_int) pm_str))))))) (pms_one (pm_ret pm_bl)) pms_nil))))))))))))))))))))) (pms_one (pm_ret pm_bl))) fa fd hm F
theorem wk__law_right (T : Txt P K mg base cl co Pt) : CalG P w K mg base cl 15 "_law_right" 1 m__law_right := calG_ofT T.a__law_right (binds_of fun _ _ _ _ _ _ us hl => match us, hl with | [_], _ => rfl) (wf__law_right T)
theorem wf__law_spring (T : Txt P K mg base cl co Pt) (fa : Addr) (fd : FuncData) (F : Fun K "_law_spring" "_law_spring" s__law_spring fa fd) : FnG P w K mg base 1 fa fd ["cells", "k"] (spF K cl 2 m__law_spring) :=
  fnD (b := b__law_spring) sc__law_spring (fun fa cdv A outer s H E g hr tk =>
    pms_cons (pm_set 2 sc__law_spring.nd (pm_if (pt_cmpM op_lt ok_fLt (pm_v 1) (pm_b (nm := "") call_len (ok_len) T.z_len (by rfl) (pm_cons (pm_v 0) pm_nil))) (pm_ix ix_seq ok_ix (pm_v 0) (pm_v 1)) (pm_op op_addM (ok_add true) (pm_op op_mulM (ok_mul true) pm_int (pm_v 1)) pm_int))) (pms_cons (pm_set 3 sc__law_spring.nd (pm_op op_addM (ok_add true) pm_int (pm_op op_mulM (ok_mul true) pm_int (pm_v 1)))) (pms_cons (pm_for (passes_of rfl) rfl (pi_v (pm_op op_addM (ok_add true) (pm_slice true (pm_v 0) po_n (po_e pm_int)) (pm_lst true (pm_cons (pm_v 2) pm_nil)))) (pg_name (i := 4) sc__law_spring.nd rfl (by first | exact Or.inl rfl | exact Or.inr rfl)) (tg_name 4) (pms_one (pm_set 3 sc__law_spring.nd (pm_op op_mod ok_fMod (pm_t call_intM (ok_int) T.z_int (by rfl) (pm_cons (pm_op op_addM (ok_add true) (pm_op op_addM (ok_add true) (pm_op op_mulM (ok_mul true) (pm_v 3) pm_int) (pm_t call_intM (ok_int) T.z_int (by rfl) (pm_cons (pm_v 4) pm_nil))) (pm_op op_mulM (ok_mul true) pm_int (pm_v 1))) pm_nil)) pm_int)))) (pms_one (pm_ret (pm_lst false (pm_cons (pm_if (PW.pt (pw_orM (pt_cmpM op_lt ok_fLt (pm_v 2) pm_int) (pw_or1M (pt_cmpM op_ge ok_fGe (pm_v 2) (pm_op op_pow ok_fPow pm_int pm_int))))) (pm_b (nm := "") call_abs (ok_abs) T.z_abs (by rfl) (pm_cons (pm_v 2) pm_nil)) pm_int) (pm_cons (pm_v 3) (pm_cons pm_int pm_nil))))))))) fa fd F
theorem wk__law_spring (T : Txt P K mg base cl co Pt) : CalG P w K mg base cl 1 "_law_spring" 2 m__law_spring := calG_of T.a__law_spring (binds_of fun _ _ _ _ _ _ us hl => match us, hl with | [_, _], _ => rfl) (wf__law_spring T)
theorem wf_law (T : Txt P K mg base cl co Pt) (fa : Addr) (fd : FuncData) (F : Fun K "law" "law" s_law fa fd) : FnG P w K mg base 16 fa fd ["script"] (spF K cl 1 m_law) :=
  fnD (b := b_law) sc_law (fun fa cdv A outer s H E g hr tk =>
    pms_one (pm_ret (pm_b (nm := "") (cr_all rfl) (ok_all) T.z_all (by rfl) (pm_cons (pm_lc true (own := [("k", 1)]) rfl sc_law.nd (pi_r1 T.z_range (pm_b (nm := "") (call_max2 rfl) (ok_max2) T.z_max (by rfl) (pm_cons pm_int (pm_cons (pm_b (nm := "") (call_min2 rfl) (ok_min2) T.z_min (by rfl) (pm_cons (pm_b (nm := "") call_len (ok_len) T.z_len (by rfl) (pm_cons (pm_v 0) pm_nil)) (pm_cons pm_int pm_nil))) pm_nil)))) (blkOk_by (N := N_law) (sc := (defScope s_law)) (own := [("k", 1)]) (by decide +kernel)) (fun _ _ _ _ _ => (pg_name (i := 1) sc_law.nd rfl (by first | exact Or.inl rfl | exact Or.inr rfl))) (tgc_name 1 (by decide)) (fun _ _ _ _ _ => pts_nil) (fun _ _ _ => tYes_ok) (fun _ _ _ _ _ => (pm_call false (wk__law_right T) hr g takes0 (by rfl) (pm_cons (pm_call true (wk__law_spring T) hr g takes0 (by rfl) (pm_cons (pm_v 0) (pm_cons (pm_v 1) pm_nil))) pm_nil)))) pm_nil)))) fa fd F
theorem wk_law (T : Txt P K mg base cl co Pt) : CalG P w K mg base cl 16 "law" 1 m_law := calG_of T.a_law (binds_of fun _ _ _ _ _ _ us hl => match us, hl with | [_], _ => rfl) (wf_law T)
theorem all_mk {h : Heap} {fa : Addr} (hm : mg "law" = some (.ref fa)) (tab : PySem.W.tabIn K "_law_right" = some (co, Pt)) (hT : h.get? Pt = some (PySem.W.tabObj #[])) (hc : PySem.W.codeHdIn K co Pt = true) (nT : K.lookup Pt = none) (T : Txt0 P K mg ⟨cfn K ["keepers", "least_breaker", "relation", "keeps", "leads_out"], [(Pt, qn_lam)]⟩ co Pt) :
    ∃ (co Pt : Addr) (fd : FuncData) (cl : Nat → Addr), h.get? Pt = some (PySem.W.tabObj #[]) ∧ PySem.W.codeHdIn K co Pt = true ∧ K.lookup Pt = none ∧ (∀ (s : Shared) (u : Value), BindsTo s fd ⟨[u], []⟩ [("script", u)]) ∧
        ∀ base : Heap, K.In base → base.Ns mainGlobals mg → LamX.TabB base mg co Pt → FnG P w K mg base 16 fa fd ["script"] (spF K ⟨cl, [(Pt, qn_lam)]⟩ 1 m_law) :=
  law_endT (P := P) (w := w) (h := h) (qn := qn_lam) (cl := cfn K ["keepers", "least_breaker", "relation", "keeps", "leads_out"]) (j := 16) (f := m_law) (pn := "script") hm T.a_law hT hc nT (bindsL fun _ _ _ _ _ _ _ => rfl) fun base tb => wf_law ⟨T, tb⟩
end
end T3
end
noncomputable section
/-! the head by one kernel run: what the top has left, read by a Hook -/
namespace T3
open PySem PySem.Spec PyProof.Rows L2
/-! ### the written part: what the module's names reach -/
def nextO (o : Obj) : List Addr := match o.data with
  | .seq its _ => its.toList.flatMap He.refV
  | .dict es _ => es.toList.flatMap fun e => He.refV e.val
  | .func fd => He.refV fd.code ++ fd.closure.map (·.2)
  | .cls cd => [cd.ns]
  | _ => []
def nextG (g : Addr → Option Obj) (as : List Addr) : List Addr := as.flatMap fun a => match g a with
  | some o => nextO o
  | none => []
def reachG (g : Addr → Option Obj) : Nat → List Addr → List Addr
  | 0, as => as
  | n + 1, as => as ++ reachG g n (nextG g as)
def startA : List Addr := [mainGlobals, cStatics]
def frcL {α β : Type} : List α → (List α → β) → List α → β
  | [], k, acc => k acc.reverse
  | x :: r, k, acc => frcL r k (x :: acc)
theorem frcL_eq {α β : Type} (k : List α → β) : ∀ (l acc : List α), frcL l k acc = k (acc.reverse ++ l)
  | [], acc => by simp [frcL]
  | x :: r, acc => by rw [frcL, frcL_eq k r (x :: acc)]; simp
theorem frcL_nil {α β : Type} (k : List α → β) (l : List α) : frcL l k [] = k l := frcL_eq k l []
def KOf (g : Addr → Option Obj) (n : Nat) : PySem.W.Frag := He.frT g (reachG g n startA)
/-! ### functions -/
abbrev FO : Type := Option (Str × Str × Arguments × FuncBody × Scope × Addr × List Str × Value × Addr)
def foA (K : PySem.W.Frag) (a : Addr) : FO := match K.lookup a with
  | some ⟨_, _, .func fd, _⟩ => some (fd.name, fd.qualname, fd.params, fd.body, fd.scope, fd.globals, fd.closure.map (·.1), fd.defaults, fd.builtins)
  | _ => none
def codeB (K : PySem.W.Frag) (a : Addr) (q : Str) : Bool := match K.lookup a with
  | some ⟨_, _, .func fd, _⟩ => PySem.W.codeIn K fd.code q
  | _ => false
/-- a def: where it stands (a global's name; a class and its method), its name, qualified name, statement, cells -/
structure FnH where
  at_ : Str × Option Str
  name : Str
  qual : Str
  st : Stmt
  cells : List Str
def FnH.val (d : FnH) : FO := some (d.name, d.qual, defArgs d.st, .stmts (defBody d.st), defScope d.st, mainGlobals, d.cells, .none, builtinsNs)
def FnH.ok (K : PySem.W.Frag) (d : FnH) : Bool := codeB K (He.fAd K d.at_) d.qual && PySem.W.keepIn K (.ref (He.fAd K d.at_))
theorem foA_ok {K : PySem.W.Frag} {d : FnH} (e : foA K (He.fAd K d.at_) = d.val) (c : d.ok K = true) :
    ∃ oc od osl cls kV doc pm an cdv ct, K.lookup (He.fAd K d.at_) = some ⟨oc, od, .func ⟨d.name, d.qual, defArgs d.st, .stmts (defBody d.st), defScope d.st, mainGlobals, cls, .none, kV, doc, pm, an, cdv, ct, builtinsNs⟩, osl⟩ ∧ cls.map (·.1) = d.cells ∧ PySem.W.codeIn K cdv d.qual = true := by
  obtain ⟨c1, c3⟩ := He.ba c
  have c2 : (match K.lookup (He.fAd K d.at_) with
    | some ⟨_, _, .func fd, _⟩ => PySem.W.codeIn K fd.code d.qual
    | _ => false) = true := c1
  unfold foA at e
  cases q : K.lookup (He.fAd K d.at_) with
  | none =>
    rw [q] at c2
    cases c2
  | some o =>
    obtain ⟨oc, od, dt, osl⟩ := o
    rw [q] at c2 e
    cases dt with
    | func fd =>
      obtain ⟨n1, n2, n3, n4, n5, n6, n7, n8, n9, n10, n11, n12, n13, n14, n15⟩ := fd
      have e2 : (some (n1, n2, n3, n4, n5, n6, n7.map (·.1), n8, n15) : FO) = some (d.name, d.qual, defArgs d.st, .stmts (defBody d.st), defScope d.st, mainGlobals, d.cells, .none, builtinsNs) := e
      simp only [Option.some.injEq, Prod.mk.injEq] at e2
      obtain ⟨h1, h2, h3, h4, h5, h6, h7, h8, h9⟩ := e2
      subst h1 h2 h3 h4 h5 h6 h8 h9
      exact ⟨oc, od, osl, n7, n9, n10, n11, n12, n13, n14, rfl, h7, c2⟩
    | _ => cases c2
/-! ### the Hook -/
abbrev Fk : Type := PySem.W.Frag → Bool
structure Says (fs : List Fk) (ds : List FnH) (K : PySem.W.Frag) : Prop where
  b : fs.all (fun f => f K) = true
  d : ds.all (fun d => d.ok K) = true
  v : ds.map (fun d => foA K (He.fAd K d.at_)) = ds.map FnH.val
def TabH (K : PySem.W.Frag) (h : Heap) (x : Str) : Prop := ∃ co Pt, PySem.W.tabIn K x = some (co, Pt) ∧ PySem.W.codeHdIn K co Pt = true ∧ K.lookup Pt = none ∧ h.get? Pt = some (PySem.W.tabObj #[])
def tabB (g : Addr → Option Obj) (K : PySem.W.Frag) (x : Str) : Bool := match PySem.W.tabIn K x with
  | some (co, Pt) => PySem.W.codeHdIn K co Pt && (match g Pt with
    | some o => He.emptyTab o
    | none => false)
  | none => false
abbrev AlM : Type := Bool × List FO
def obsK (fs : List Fk) (ds : List FnH) (tf : List Str) (g : Addr → Option Obj) (K : PySem.W.Frag) : AlM :=
  (fs.all (fun f => f K) && (ds.all (fun d => d.ok K) && tf.all fun x => tabB g K x), ds.map fun d => foA K (He.fAd K d.at_))
def obsM (n : Nat) (fs : List Fk) (ds : List FnH) (tf : List Str) (g : Addr → Option Obj) : AlM := frcL (KOf g n) (fun K => obsK fs ds tf g K) []
def valM (ds : List FnH) : AlM := (true, ds.map FnH.val)
def SaysM (fs : List Fk) (ds : List FnH) (tf : List Str) (h : Heap) : Prop := ∃ K : PySem.W.Frag, K.In h ∧ Says fs ds K ∧ ∀ x ∈ tf, TabH K h x
theorem saysM_of {n : Nat} {fs : List Fk} {ds : List FnH} {tf : List Str} {h : Heap} (e : obsM n fs ds tf h.get? = valM ds) : SaysM fs ds tf h := by
  unfold obsM at e
  rw [frcL_nil] at e
  have e1 : (fs.all (fun f => f (KOf h.get? n)) && (ds.all (fun d => d.ok (KOf h.get? n)) && tf.all fun x => tabB h.get? (KOf h.get? n) x)) = true := congrArg (fun z : AlM => z.1) e
  have e2 : ds.map (fun d => foA (KOf h.get? n) (He.fAd (KOf h.get? n) d.at_)) = ds.map FnH.val := congrArg (fun z : AlM => z.2) e
  obtain ⟨b1, b2⟩ := He.ba e1
  obtain ⟨b2, b3⟩ := He.ba b2
  refine ⟨KOf h.get? n, He.frT_in, ⟨b1, b2, e2⟩, fun x hx => ?_⟩
  have b4 := List.all_eq_true.mp b3 x hx
  unfold tabB at b4
  split at b4
  · rename_i co Pt ht
    obtain ⟨b5, b6⟩ := He.ba b4
    refine ⟨co, Pt, ht, b5, ?_⟩
    split at b6
    · rename_i o ho
      exact ⟨He.frT_none ho b6, by rw [ho, He.emptyTab_eq b6] <;> rfl⟩
    · cases b6
  · cases b4
def hookM (n : Nat) (fs : List Fk) (ds : List FnH) (tf : List Str) : PySem.W.Hook where
  α := AlM
  obs := fun s => obsM n fs ds tf s.heap.get?
  val := fun _ => valM ds
  says := fun _ h => SaysM fs ds tf h
  of := fun _ _ e => saysM_of e
  keeps := fun _ _ _ ⟨K, hK, c, t⟩ k => ⟨K, PySem.W.Frag.In.keeps hK k, c, fun x hx => by
    obtain ⟨co, Pt, t1, t2, t3, t4⟩ := t x hx
    exact ⟨co, Pt, t1, t2, t3, k _ _ t4⟩⟩
def obM (n : Nat) (fs : List Fk) (ds : List FnH) (tf : List Str) (s : PySem.W.SharedT) : AlM := obsM n fs ds tf (HandSHeadRun.getT s)
theorem obM_eq {n : Nat} {fs : List Fk} {ds : List FnH} {tf : List Str} (s : PySem.W.SharedT) : obM n fs ds tf s = (hookM n fs ds tf).obs s.abs := by
  have e : HandSHeadRun.getT s = s.abs.heap.get? := funext (HandSHeadRun.getT_eq s)
  unfold obM
  rw [e] <;> rfl
/-! ### single facts -/
def bFree (x : Str) : Fk := fun K => decide (PySem.W.nsIn K mainGlobals x = some none)
def bGlo (x : Str) : Fk := fun K => decide (PySem.W.nsIn K mainGlobals x = some (some (.ref (He.ga K x))))
def bCon (x : Str) (v : V) : Fk := fun K => match PySem.W.nsIn K mainGlobals x with
  | some (some u) => He.relB v u
  | _ => false
-- <tup>
def bTup (x : Str) (xs : List Str) : Fk := fun K => decide (PySem.W.nsIn K mainGlobals x = some (some (.ref (He.ga K x)))) && (match K.lookup (He.ga K x) with
  | some ⟨.type c, none, .seq its _, _⟩ => decide (c = "tuple") && (szOk its.size && decide (strsV its.toList = some xs))
  | _ => false)
-- </tup>
def bFn (fns : List Str) (x : Str) (i : Nat) : Fk := fun K => decide (PySem.W.nsIn K mainGlobals x = some (some (.ref (cfn K fns i))))
/-- an error class's __init__ -/
def bInit (fl C : Str) : Fk := fun K => match K.lookup (He.fAd K (C, some "__init__")) with
  | some ⟨_, _, .func fd, _⟩ => (match fd.code with
    | .ref cda => (match K.lookup cda with
      | some ⟨_, _, .fields vs, _⟩ => (match (vs[2]? : Option Value) with
        | some (.str file _) => decide (fl = file)
        | _ => false)
      | _ => false)
    | _ => false) && (match fd.closure with
    | [(_, cc)] => (match K.lookup cc with
      | some ⟨_, _, .cell (some (.ref D)), _⟩ => decide (D = He.ga K C)
      | _ => false)
    | _ => false)
  | _ => false
def bX (C f : Str) (B newId initId : String) (bmB : List Value) : Fk := fun K => bGlo C K && xB K (He.ga K C) (He.fAd K (C, some "__init__")) f B newId initId bmB
section
variable {fs : List Fk} {ds : List FnH} {K : PySem.W.Frag} {h : Heap} {mg : Str → Option Value}
theorem Says.fact (c : Says fs ds K) (i : Nat) {f : Fk} (e : fs[i]? = some f) : f K = true := List.all_eq_true.mp c.b f (List.mem_of_getElem? e)
theorem Says.def_ (c : Says fs ds K) (i : Nat) {d : FnH} (e : ds[i]? = some d) :
    ∃ oc od osl cls kV doc pm an cdv ct, K.lookup (He.fAd K d.at_) = some ⟨oc, od, .func ⟨d.name, d.qual, defArgs d.st, .stmts (defBody d.st), defScope d.st, mainGlobals, cls, .none, kV, doc, pm, an, cdv, ct, builtinsNs⟩, osl⟩ ∧ cls.map (·.1) = d.cells ∧ PySem.W.codeIn K cdv d.qual = true ∧ PySem.W.keepIn K (.ref (He.fAd K d.at_)) = true := by
  have c2 := List.all_eq_true.mp c.d d (List.mem_of_getElem? e)
  have e2 : (ds.map fun d => foA K (He.fAd K d.at_))[i]? = (ds.map FnH.val)[i]? := by rw [c.v]
  rw [List.getElem?_map, List.getElem?_map, e] at e2
  obtain ⟨oc, od, osl, cls, kV, doc, pm, an, cdv, ct, h1, h2, h3⟩ := foA_ok (Option.some.inj e2) c2
  exact ⟨oc, od, osl, cls, kV, doc, pm, an, cdv, ct, h1, h2, h3, (He.ba c2).2⟩
theorem hat_ok (X : K.In h) (G : h.Ns mainGlobals mg) (c : Says fs ds K) (i j : Nat) {x : Str} {st : Stmt} (e : ds[i]? = some ⟨(x, none), x, x, st, []⟩) (f : fs[j]? = some (bGlo x)) : At K mg x st := by
  obtain ⟨oc, od, osl, cls, kV, doc, pm, an, cdv, ct, h1, h2, h3, h4⟩ := c.def_ i e
  obtain rfl : cls = [] := List.map_eq_nil_iff.mp h2
  have f2 := c.fact j f
  exact ⟨_, _, PySem.W.mg_of X G (of_decide_eq_true f2), fun_mk (st := st) h1 h3 h4⟩
theorem free_ok (X : K.In h) (G : h.Ns mainGlobals mg) (c : Says fs ds K) (j : Nat) {x : Str} (f : fs[j]? = some (bFree x)) : mg x = none := PySem.W.mg_none_of X G (of_decide_eq_true (c.fact j f))
theorem con_ok (X : K.In h) (G : h.Ns mainGlobals mg) (c : Says fs ds K) (j : Nat) {x : Str} {v : V} (f : fs[j]? = some (bCon x v)) : Cn mg x v := by
  have f2 : (match PySem.W.nsIn K mainGlobals x with
    | some (some u) => He.relB v u
    | _ => false) = true := c.fact j f
  split at f2
  · rename_i u hu
    exact ⟨u, PySem.W.mg_of X G hu, He.relB_ok f2⟩
  · cases f2
-- <tup>
theorem tup_ok (X : K.In h) (G : h.Ns mainGlobals mg) (c : Says fs ds K) (j : Nat) {x : Str} {xs : List Str} (f : fs[j]? = some (bTup x xs)) : CnT K mg x xs := by
  have f2 := c.fact j f
  unfold bTup at f2
  obtain ⟨f3, f4⟩ := He.ba f2
  split at f4
  · rename_i c' its n sl hl
    simp only [Bool.and_eq_true, decide_eq_true_eq] at f4
    obtain ⟨rfl, f5, f6⟩ := f4
    exact cnT_mk X G (of_decide_eq_true f3) hl f5 f6
  · cases f4
-- </tup>
theorem fn_ok (X : K.In h) (G : h.Ns mainGlobals mg) (c : Says fs ds K) {fns : List Str} {T : List (Addr × Str)} (j : Nat) {x : Str} {i : Nat} (f : fs[j]? = some (bFn fns x i)) : mg x = some (.ref ((⟨cfn K fns, T⟩ : ClT) i)) := PySem.W.mg_of X G (of_decide_eq_true (c.fact j f))
theorem errs_ok (X : K.In h) (G : h.Ns mainGlobals mg) (c : Says fs ds K) {is : List Nat} (j : Nat) (f : fs[j]? = some (fun K => errBB K is)) : ErrG K mg (xA K) is := errG_all X G (c.fact j f)
theorem raisX_ok (X : K.In h) (G : h.Ns mainGlobals mg) (c : Says fs ds K) {prog : Program} {C qual f : Str} {st : Stmt} {B newId initId : String} {bmB : List Value} {p1 p2 p0 a1 a2 a3 a4 q1 q2 q3 q4 : Pos} (i j j2 : Nat) (e : ds[i]? = some ⟨(C, some "__init__"), "__init__", qual, st, ["__class__"]⟩)
    (ea : defArgs st = XI.ag f p1 p2) (eb : defBody st = XI.bd f p0 a1 a2 a3 a4 q1 q2 q3 q4) (es : defScope st = XI.sc f) (ln : (a2.endLine == a3.line) = true) (h1 : fs[j]? = some (bInit prog.main.file C)) (h2 : fs[j2]? = some (bX C f B newId initId bmB)) (top : (prog.main.scope.names.lookup ("super" : Str)).isSome = false)
    (base : XI.BaseX B newId initId bmB) : RaisX prog K mg C f := by
  obtain ⟨oc, od, osl, cls, kV, doc, pm, an, cdv, ct, g1, g2, g3, g4⟩ := c.def_ i e
  have k1 := c.fact j h1
  obtain ⟨k2, k3⟩ := He.ba (c.fact j2 h2)
  have g1' : K.lookup (He.fAd K (C, some "__init__")) = some ⟨oc, od, .func ⟨"__init__", qual, defArgs st, .stmts (defBody st), defScope st, mainGlobals, cls, .none, kV, doc, pm, an, cdv, ct, builtinsNs⟩, osl⟩ := g1
  unfold bInit at k1
  rw [g1'] at k1
  obtain ⟨k4, k5⟩ := He.ba k1
  cases cdv with
  | ref cda =>
    have k4' : (match K.lookup cda with
      | some ⟨_, _, .fields vs, _⟩ => (match (vs[2]? : Option Value) with
        | some (.str file _) => decide (prog.main.file = file)
        | _ => false)
      | _ => false) = true := k4
    split at k4'
    · rename_i u1 u2 vs u3 hl
      split at k4'
      · rename_i file tf hv
        match cls, g2, g1', k5 with
        | [(z, cc)], g2, g1', k5 =>
          obtain rfl : z = "__class__" := by simpa using g2
          have k5' : (match K.lookup cc with
            | some ⟨_, _, .cell (some (.ref D)), _⟩ => decide (D = He.ga K C)
            | _ => false) = true := k5
          split at k5'
          · rename_i v1 v2 D v3 hc
            have hD : D = He.ga K C := of_decide_eq_true k5'
            rw [hD] at hc
            have k3' := k3
            unfold xB at k3'
            simp only [Bool.and_eq_true, decide_eq_true_eq] at k3'
            rw [ea, eb, es] at g1'
            exact raisX_mk (f := f) (p1 := p1) (p2 := p2) (p0 := p0) (a1 := a1) (a2 := a2) (a3 := a3) (a4 := a4) (q1 := q1) (q2 := q2) (q3 := q3) (q4 := q4) X G (of_decide_eq_true k2) k3'.2.2.2.2.2.1 g1' hl hc g3 rfl ln hv (by rw [of_decide_eq_true k4']; exact BEq.rfl) top base k3
          · cases k5'
        | [], g2, _, _ => cases g2
        | _ :: _ :: _, g2, _, _ => simp at g2
      · cases k4'
    · cases k4'
  | _ => cases g3
end
/-! ### the walk over it -/
-- <G>
theorem walkGH {l : PySem.W.OpenLaw} {k : Nat} {q : Program} {loose : List Str} {XP : (Str → Option Value) → Heap → Prop} {YP : World → Heap → Prop} {d : DefRec} {x : Str} {f : Fn} (L : LawSays f)
    (hn : l.most = some 63) (hdf : d.params.defaults = []) (hr : Room k callerA)
    (F : ∀ (w : World) (mg : Str → Option Value) (fa : Addr) (h : Heap), YP w h → h.Ns mainGlobals mg → mg d.name = some (.ref fa) →
      ∃ K : PySem.W.Frag, K.In h ∧ ∃ (fd : FuncData) (cl : Nat → Addr), (∀ (s : Shared) (u : Value), BindsTo s fd ⟨[u], []⟩ [(x, u)]) ∧
        ∀ base : Heap, K.In base → base.Ns mainGlobals mg → FnG l.prog w K mg base k fa fd [x] (spF K ⟨cl, []⟩ 1 f)) :
    PySem.W.WalkO q loose XP YP l.row.toRowW d [] (fun f vs => PySem.call f vs) := by
  refine Att.attach_call hn hdf fun w s₀ s₁ mg mb fa o pm cd doc a vs ns G Y ho hd hcd hmg hobj hints hlen hg => ?_
  obtain ⟨K, KX, fd, cl, hb, hF⟩ := F w mg fa _ Y G.T.g hmg
  exact law_callG KX G.T.g G.T.b G.T.builtins G.T.nolimit hg hobj hints (Nat.le_trans hlen (by decide)) hr hF hb fun H hS => spLaw L H a ns hlen hS fun _ z => by cases z
-- </G>
theorem walkTH {l : PySem.W.OpenLaw} {k : Nat} {q : Program} {loose : List Str} {XP : (Str → Option Value) → Heap → Prop} {YP : World → Heap → Prop} {d : DefRec} {x qn : Str} {f : Fn} (L : LawSays f)
    (hn : l.most = some 63) (hdf : d.params.defaults = []) (hr : Room k callerA)
    (F : ∀ (w : World) (mg : Str → Option Value) (fa : Addr) (h : Heap), YP w h → h.Ns mainGlobals mg → mg d.name = some (.ref fa) →
      ∃ K : PySem.W.Frag, K.In h ∧ ∃ (co Pt : Addr) (fd : FuncData) (cl : Nat → Addr), h.get? Pt = some (PySem.W.tabObj #[]) ∧ PySem.W.codeHdIn K co Pt = true ∧ K.lookup Pt = none ∧ (∀ (s : Shared) (u : Value), BindsTo s fd ⟨[u], []⟩ [(x, u)]) ∧
        ∀ base : Heap, K.In base → base.Ns mainGlobals mg → LamX.TabB base mg co Pt → FnG l.prog w K mg base k fa fd [x] (spF K ⟨cl, [(Pt, qn)]⟩ 1 f)) :
    PySem.W.WalkO q loose XP YP l.row.toRowW d [] (fun f vs => PySem.call f vs) := by
  refine Att.attach_call hn hdf fun w s₀ s₁ mg mb fa o pm cd doc a vs ns G Y ho hd hcd hmg hobj hints hlen hg => ?_
  obtain ⟨K, KX, co, Pt, fd, cl, hT, ht, nT, hb, hF⟩ := F w mg fa _ Y G.T.g hmg
  exact law_callT KX G.T.g G.T.b G.T.builtins G.T.nolimit hg hT nT (PySem.W.codeHd_of_K KX ht) G.T.bmain hobj hints (Nat.le_trans hlen (by decide)) hr hF hb fun H hH hS => spLaw L H a ns hlen hS (tabs_one hH)
end T3
namespace T3
open PySem PySem.Spec PyProof.Rows L2
def hfs0 : List Fk := [bGlo "_law_all_words", bGlo "_law_draw", bGlo "_law_first", bGlo "_law_is_whole", bGlo "_law_of", bGlo "_law_odd", bGlo "_law_table", bGlo "_law_error", bGlo "_law_field", bGlo "_law_told", bGlo "_law_wrong", bGlo "is_word", bGlo "check_word", bGlo "all_arguments", bGlo "table_from", bGlo "all_tables", bGlo "all_rows", bGlo "chain_of", bGlo "is_in_pairs", bGlo "is_in", bGlo "index_of", bGlo "value_at", bGlo "made_by", bGlo "size_of", bGlo "places_of", bGlo "length_of", bGlo "relation_of", bGlo "out_of", bGlo "is_kept", bGlo "keepers_of"]
def hfs1 : List Fk := [bGlo "keepers", bGlo "is_table", bGlo "check_table", bGlo "keeps", bGlo "words_of", bGlo "kept_by", bGlo "leads_out", bGlo "table_of_number", bGlo "least_breaker", bGlo "relation", bGlo "is_integer", bGlo "is_between", bGlo "check_order", bGlo "renamed_word_of", bGlo "renamed_word", bGlo "_law_right", bGlo "_law_spring", bGlo "law", bFree "ArithmeticError", bFree "LookupError", bFree "ValueError", bFree "abs", bFree "all", bFree "bool", bFree "divmod", bFree "int", bFree "isinstance", bFree "len", bFree "list", bFree "max"]
def hfs2 : List Fk := [bFree "min", bFree "range", bFree "repr", bFree "set", bFree "sorted", bFree "str", bFree "tuple", bTup "WORDS" ["set 0", "set 1", "set 2", "set 01", "set 02", "set 12", "part 0", "part 1", "part 2", "turn", "sums", "chain 0", "chain 1", "chain 2", "centre 0", "centre 1", "centre 2", "mixed"], bCon "MOST_PLACES" (.int 3), bCon "DIGITS" (.str "012"), (fun K => errBB K [2, 3, 4, 5, 6]), bInit PySem.Challenge.pw_threevalues_k07_relations_refused.main.file "InvalidWord", bX "InvalidWord" "given" "ValueError" "ValueError.__new__" "ValueError.__init__" [.type "ValueError", .type "Exception", .type "BaseException", .type "object"], bInit PySem.Challenge.pw_threevalues_k07_relations_refused.main.file "InvalidTable", bX "InvalidTable" "given" "ValueError" "ValueError.__new__" "ValueError.__init__" [.type "ValueError", .type "Exception", .type "BaseException", .type "object"], bInit PySem.Challenge.pw_threevalues_k07_relations_refused.main.file "InvalidOrder", bX "InvalidOrder" "given" "ValueError" "ValueError.__new__" "ValueError.__init__" [.type "ValueError", .type "Exception", .type "BaseException", .type "object"], bFn ["keepers", "least_breaker", "relation", "keeps", "leads_out"] "keepers" 2000, bFn ["keepers", "least_breaker", "relation", "keeps", "leads_out"] "least_breaker" 2001, bFn ["keepers", "least_breaker", "relation", "keeps", "leads_out"] "relation" 2002, bFn ["keepers", "least_breaker", "relation", "keeps", "leads_out"] "keeps" 2003, bFn ["keepers", "least_breaker", "relation", "keeps", "leads_out"] "leads_out" 2004, bFree "super"]
def hfs : List Fk := hfs0 ++ hfs1 ++ hfs2
def hds0 : List FnH := [⟨("_law_all_words", none), "_law_all_words", "_law_all_words", s__law_all_words, []⟩, ⟨("_law_draw", none), "_law_draw", "_law_draw", s__law_draw, []⟩, ⟨("_law_first", none), "_law_first", "_law_first", s__law_first, []⟩, ⟨("_law_is_whole", none), "_law_is_whole", "_law_is_whole", s__law_is_whole, []⟩, ⟨("_law_of", none), "_law_of", "_law_of", s__law_of, []⟩, ⟨("_law_odd", none), "_law_odd", "_law_odd", s__law_odd, []⟩, ⟨("_law_table", none), "_law_table", "_law_table", s__law_table, []⟩, ⟨("_law_error", none), "_law_error", "_law_error", s__law_error, []⟩, ⟨("_law_field", none), "_law_field", "_law_field", s__law_field, []⟩, ⟨("_law_told", none), "_law_told", "_law_told", s__law_told, []⟩, ⟨("_law_wrong", none), "_law_wrong", "_law_wrong", s__law_wrong, []⟩, ⟨("is_word", none), "is_word", "is_word", s_is_word, []⟩, ⟨("check_word", none), "check_word", "check_word", s_check_word, []⟩, ⟨("all_arguments", none), "all_arguments", "all_arguments", s_all_arguments, []⟩, ⟨("table_from", none), "table_from", "table_from", s_table_from, []⟩, ⟨("all_tables", none), "all_tables", "all_tables", s_all_tables, []⟩, ⟨("all_rows", none), "all_rows", "all_rows", s_all_rows, []⟩, ⟨("chain_of", none), "chain_of", "chain_of", s_chain_of, []⟩, ⟨("is_in_pairs", none), "is_in_pairs", "is_in_pairs", s_is_in_pairs, []⟩, ⟨("is_in", none), "is_in", "is_in", s_is_in, []⟩, ⟨("index_of", none), "index_of", "index_of", s_index_of, []⟩, ⟨("value_at", none), "value_at", "value_at", s_value_at, []⟩, ⟨("made_by", none), "made_by", "made_by", s_made_by, []⟩, ⟨("size_of", none), "size_of", "size_of", s_size_of, []⟩, ⟨("places_of", none), "places_of", "places_of", s_places_of, []⟩, ⟨("length_of", none), "length_of", "length_of", s_length_of, []⟩, ⟨("relation_of", none), "relation_of", "relation_of", s_relation_of, []⟩, ⟨("out_of", none), "out_of", "out_of", s_out_of, []⟩, ⟨("is_kept", none), "is_kept", "is_kept", s_is_kept, []⟩, ⟨("keepers_of", none), "keepers_of", "keepers_of", s_keepers_of, []⟩]
def hds1 : List FnH := [⟨("keepers", none), "keepers", "keepers", s_keepers, []⟩, ⟨("is_table", none), "is_table", "is_table", s_is_table, []⟩, ⟨("check_table", none), "check_table", "check_table", s_check_table, []⟩, ⟨("keeps", none), "keeps", "keeps", s_keeps, []⟩, ⟨("words_of", none), "words_of", "words_of", s_words_of, []⟩, ⟨("kept_by", none), "kept_by", "kept_by", s_kept_by, []⟩, ⟨("leads_out", none), "leads_out", "leads_out", s_leads_out, []⟩, ⟨("table_of_number", none), "table_of_number", "table_of_number", s_table_of_number, []⟩, ⟨("least_breaker", none), "least_breaker", "least_breaker", s_least_breaker, []⟩, ⟨("relation", none), "relation", "relation", s_relation, []⟩, ⟨("is_integer", none), "is_integer", "is_integer", s_is_integer, []⟩, ⟨("is_between", none), "is_between", "is_between", s_is_between, []⟩, ⟨("check_order", none), "check_order", "check_order", s_check_order, []⟩, ⟨("renamed_word_of", none), "renamed_word_of", "renamed_word_of", s_renamed_word_of, []⟩, ⟨("renamed_word", none), "renamed_word", "renamed_word", s_renamed_word, []⟩, ⟨("_law_right", none), "_law_right", "_law_right", s__law_right, []⟩, ⟨("_law_spring", none), "_law_spring", "_law_spring", s__law_spring, []⟩, ⟨("law", none), "law", "law", s_law, []⟩, ⟨("InvalidWord", some "__init__"), "__init__", "InvalidWord.__init__", inClass (topS 5) 0, ["__class__"]⟩, ⟨("InvalidTable", some "__init__"), "__init__", "InvalidTable.__init__", inClass (topS 4) 0, ["__class__"]⟩, ⟨("InvalidOrder", some "__init__"), "__init__", "InvalidOrder.__init__", inClass (topS 8) 0, ["__class__"]⟩]
def hds : List FnH := hds0 ++ hds1
def hnm0 : List Str := ["WrongValue", "InvalidText", "InvalidNumber", "InvalidTable", "InvalidWord", "InvalidArguments", "InvalidTables", "InvalidOrder", "InvalidLot", "InvalidSheet", "InvalidName", "InvalidWish", "NotABox", "InvalidRows", "InvalidSteps", "InvalidTold", "InvalidExchanges", "InvalidWishes", "WrongName", "UnknownName", "InUse", "NoAnswer", "TooMany", "Broken", "NothingToUndo", "MOST_PLACES", "DIGITS", "is_integer", "is_between", "size_of"]
def hnm1 : List Str := ["is_table", "check_table", "places_of", "index_of", "value_at", "all_arguments", "table_from", "check_order", "all_tables", "WORDS", "is_word", "check_word", "chain_of", "is_in_pairs", "is_in", "length_of", "relation_of", "relation", "made_by", "all_rows", "out_of", "is_kept", "keeps", "leads_out", "words_of", "kept_by", "keepers_of", "keepers", "least_breaker", "table_of_number"]
def hnm2 : List Str := ["renamed_word_of", "renamed_word", "_law_spring", "_law_draw", "_law_of", "_law_is_whole", "_law_error", "_law_field", "_law_told", "_law_odd", "_law_all_words", "_law_table", "_law_first", "_law_wrong", "_law_right"]
def hnm : List Str := hnm0 ++ hnm1 ++ hnm2
def htf : List Str := ["_law_right"]
abbrev hq : Program := PySem.W.view (PySem.W.OpenLaw.row PySem.Challenge.rw_threevalues_k07_relations_refused).prog [79]
set_option maxHeartbeats 0 in
theorem hrun (w : World) : HandSHeadRun.RunEq (PySem.W.OpenLaw.row PySem.Challenge.rw_threevalues_k07_relations_refused) hq (hookM 4 hfs hds htf) (obM 4 hfs hds htf) 40000 hnm w := by
  intro os
  kernel_rfl
end T3
open PySem PySem.W PyProof.Rows
set_option maxRecDepth 100000 in
set_option maxHeartbeats 0 in
theorem PySem.Challenge.cw_threevalues_k07_relations_refused_holds : PySem.Challenge.rw_threevalues_k07_relations_refused.Holds := by
  w_on; o_law
  refine HandSHeadRun.head_any (r := (PySem.W.OpenLaw.row PySem.Challenge.rw_threevalues_k07_relations_refused)) (q := T3.hq) (H := T3.hookM 4 T3.hfs T3.hds T3.htf) (ob := T3.obM 4 T3.hfs T3.hds T3.htf) (M := 40000) (loose := T3.hnm) (d := HandSHeadRun.topDef (PySem.W.OpenLaw.row PySem.Challenge.rw_threevalues_k07_relations_refused).prog 79) (kwd := []) T3.obM_eq
    (by kernel_rfl) (fun s => by kernel_rfl) T3.hrun (by kernel_rfl) (by kernel_rfl) (by kernel_rfl) (by rfl) (by first | assumption | decide +kernel) (by decide +kernel) ⟨rfl, rfl, rfl, rfl, rfl, by decide +kernel⟩ ?hw ?hc
  case hw => w_witness2
  case hc =>
    refine T3.walkTH (l := PySem.Challenge.rw_threevalues_k07_relations_refused) (k := 16) (x := "script") (qn := T3.qn_lam) T3.law_holds rfl (by kernel_rfl) ⟨rfl, by decide, by decide⟩ ?F
    intro w mg fa h Y G hmg0
    obtain ⟨K, KX, c, tb⟩ := Y
    have hmg : mg ("law" : PySem.Str) = some (.ref fa) := by
      have e : (HandSHeadRun.topDef (PySem.W.OpenLaw.row PySem.Challenge.rw_threevalues_k07_relations_refused).prog 79).name = ("law" : PySem.Str) := by kernel_rfl
      rw [← e]
      exact hmg0
    obtain ⟨co, Pt, tab, hc, nT, hT⟩ := tb "_law_right" (List.mem_singleton.mpr rfl)
    refine ⟨K, KX, T3.all_mk (K := K) hmg tab hT hc nT ?_⟩
    exact ⟨T3.hat_ok KX G c 0 0 rfl rfl, T3.hat_ok KX G c 1 1 rfl rfl, T3.hat_ok KX G c 2 2 rfl rfl, T3.hat_ok KX G c 3 3 rfl rfl, T3.hat_ok KX G c 4 4 rfl rfl, T3.hat_ok KX G c 5 5 rfl rfl, T3.hat_ok KX G c 6 6 rfl rfl, T3.hat_ok KX G c 7 7 rfl rfl, T3.hat_ok KX G c 8 8 rfl rfl, T3.hat_ok KX G c 9 9 rfl rfl, T3.hat_ok KX G c 10 10 rfl rfl, T3.hat_ok KX G c 11 11 rfl rfl, T3.hat_ok KX G c 12 12 rfl rfl, T3.hat_ok KX G c 13 13 rfl rfl, T3.hat_ok KX G c 14 14 rfl rfl, T3.hat_ok KX G c 15 15 rfl rfl, T3.hat_ok KX G c 16 16 rfl rfl, T3.hat_ok KX G c 17 17 rfl rfl, T3.hat_ok KX G c 18 18 rfl rfl, T3.hat_ok KX G c 19 19 rfl rfl, T3.hat_ok KX G c 20 20 rfl rfl, T3.hat_ok KX G c 21 21 rfl rfl, T3.hat_ok KX G c 22 22 rfl rfl, T3.hat_ok KX G c 23 23 rfl rfl, T3.hat_ok KX G c 24 24 rfl rfl, T3.hat_ok KX G c 25 25 rfl rfl, T3.hat_ok KX G c 26 26 rfl rfl, T3.hat_ok KX G c 27 27 rfl rfl, T3.hat_ok KX G c 28 28 rfl rfl, T3.hat_ok KX G c 29 29 rfl rfl, T3.hat_ok KX G c 30 30 rfl rfl, T3.hat_ok KX G c 31 31 rfl rfl, T3.hat_ok KX G c 32 32 rfl rfl, T3.hat_ok KX G c 33 33 rfl rfl, T3.hat_ok KX G c 34 34 rfl rfl, T3.hat_ok KX G c 35 35 rfl rfl, T3.hat_ok KX G c 36 36 rfl rfl, T3.hat_ok KX G c 37 37 rfl rfl, T3.hat_ok KX G c 38 38 rfl rfl, T3.hat_ok KX G c 39 39 rfl rfl, T3.hat_ok KX G c 40 40 rfl rfl, T3.hat_ok KX G c 41 41 rfl rfl, T3.hat_ok KX G c 42 42 rfl rfl, T3.hat_ok KX G c 43 43 rfl rfl, T3.hat_ok KX G c 44 44 rfl rfl, T3.hat_ok KX G c 45 45 rfl rfl, T3.hat_ok KX G c 46 46 rfl rfl, T3.hat_ok KX G c 47 47 rfl rfl, T3.free_ok KX G c 48 rfl, T3.free_ok KX G c 49 rfl, T3.free_ok KX G c 50 rfl, T3.free_ok KX G c 51 rfl, T3.free_ok KX G c 52 rfl, T3.free_ok KX G c 53 rfl, T3.free_ok KX G c 54 rfl, T3.free_ok KX G c 55 rfl, T3.free_ok KX G c 56 rfl, T3.free_ok KX G c 57 rfl, T3.free_ok KX G c 58 rfl, T3.free_ok KX G c 59 rfl, T3.free_ok KX G c 60 rfl, T3.free_ok KX G c 61 rfl, T3.free_ok KX G c 62 rfl, T3.free_ok KX G c 63 rfl, T3.free_ok KX G c 64 rfl, T3.free_ok KX G c 65 rfl, T3.free_ok KX G c 66 rfl, T3.tup_ok KX G c 67 rfl, T3.con_ok KX G c 68 rfl, T3.con_ok KX G c 69 rfl, T3.isiT_bool _, T3.isiT_int _, T3.isiT_str _, T3.isiT_tuple _, T3.errG_cfn _ (T3.errs_ok KX G c 70 rfl) (by decide), T3.raisX_ok KX G c 48 71 72 rfl rfl rfl rfl rfl rfl rfl rfl T3.base_V, T3.raisX_ok KX G c 49 73 74 rfl rfl rfl rfl rfl rfl rfl rfl T3.base_V, T3.raisX_ok KX G c 50 75 76 rfl rfl rfl rfl rfl rfl rfl rfl T3.base_V, T3.fn_ok KX G c 77 rfl, T3.fn_ok KX G c 78 rfl, T3.fn_ok KX G c 79 rfl, T3.fn_ok KX G c 80 rfl, T3.fn_ok KX G c 81 rfl, T3.free_ok KX G c 82 rfl, rfl, T3.code_of KX G tab⟩


