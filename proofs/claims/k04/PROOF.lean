import PyProof.Rows.All
import Wide.All
import OpenK.AllK
import Wide.FinOn
import HandS.ForMost
import HandS.ForExc
import HandS.Lambda
import HandS.TupAny
import HandS.TupMul
import HandS.Deep
import HandS.Codes
import HandS.SetFor
import HandS.Strs
import HandS.RaiseMore
import HandS.NoneIn
import HandS.SortInts
import HandS.Star
import HandS.IsInst
import HandS.Zip
import HandS.Text
import HandS.Conv
import HandS.Dict
import HandS.Style
import HandS.FStr
import PyProof.ListStr
import KE.SortData
import KE.KRevSl
import PyProof.TupleOfSeq
import KE.KExcSuper
import HandS.HeadWalk
import HandS.HotCalls
import HandS.ExcIs
import HandS.ExcField
import KE.KExcIs
import KE.KTryMore
import KE.DataFind
import KE.KNest
import KE.KNestM
import PyProof.ExcBaseAll.ValueError
import PyProof.ExcBaseAll.LookupError
import PyProof.ExcBaseAll.ArithmeticError
import HandS.Head0
import HandS.Head1
import HandS.Head2
import HandS.HeadHook1
import HandS.HeadHook2
import HandS.HeadHook3
import HandS.HeadHook4
import PySem.Challenge.RW_threevalues_k04_tables_refused
set_option Elab.async false
set_option linter.all false
set_option maxRecDepth 100000
set_option maxHeartbeats 4000000
noncomputable section
namespace T3
open PySem PySem.Spec PyProof.Rows L2
inductive D where
  | non | bl (b : Bool) | int (i : Int) | str (s : Str)
  | tup (xs : List D) | lst (xs : List D) | ro (xs : List D) | wt (xs : List D)
  | dic (ks : List Key) (vs : List D)
  | ins (c : Nat) (ns : List Str) (vs : List D)
inductive A where | val (d : D) | ref (i : Nat)
inductive O where
  | lst (xs : List D) | dic (ks : List Key) (vs : List D) | ins (c : Nat) (ns : List Str) (vs : List A)
abbrev Store := List O
abbrev Slots := List (Option A)
/-- an exception as data: its class's tag, its fields -/
structure X0 where
  c : Nat
  ns : List Str
  vs : List D
inductive Res where
  | ok (x : A) (S : Store) | exc (e : X0) (S : Store) | bad
inductive SRes where
  | nx (ρ : Slots) (S : Store) | rt (x : A) (S : Store) | bk (ρ : Slots) (S : Store) | ct (ρ : Slots) (S : Store) | exc (e : X0) (ρ : Slots) (S : Store) | bad
abbrev CE := Slots → Store → Res
abbrev CS := Slots → Store → SRes
inductive LRes where
  | ok (xs : List A) (S : Store) | exc (e : X0) (S : Store) | bad
abbrev CA := Slots → Store → LRes
abbrev Fn := List A → Store → Res
/-- where the classes stand, 1000 on: a held error; T: the tables of code objects, with the names of the lambdas that they hold -/
structure ClT where
  f : Nat → Addr
  T : List (Addr × Str)
instance : CoeFun ClT (fun _ => Nat → Addr) := ⟨ClT.f⟩
/-- no table -/
noncomputable def NT (o : HO) : Prop := ∀ ps, o ≠ .tbl ps
section rep
variable (K : PySem.W.Frag) (cl : ClT)
noncomputable def TupAt (N : Addr → Prop) (H : Hp) (a : Addr) (xs : List V) : Prop :=
  (∃ ob : Obj, H a = some (.frz ob (.tup xs)) ∧ ob.dict = none ∧ ¬ N a) ∨ ∃ (o : Obj) (its : Array Value) (n : Nat), K.lookup a = some o ∧ o.cls = .type "tuple" ∧ o.dict = none ∧ o.data = .seq its n ∧ its.size ≤ sizeLine ∧ Vals xs its.toList
noncomputable def RoAt (N : Addr → Prop) (H : Hp) (a : Addr) (xs : List V) : Prop :=
  (Rd H a (.lst xs) ∧ ¬ N a) ∨ ∃ (o : Obj) (its : Array Value) (n : Nat), K.lookup a = some o ∧ o.cls = .type "list" ∧ o.dict = none ∧ o.data = .seq its n ∧ its.size ≤ sizeLine ∧ Vals xs its.toList
/-- an instance: tracked; or (c from 1000 on) the error that a suite holds, told by its address cl c and its dict's, cl (c + 1); or (c from 2000 on) a def, at cl c -/
noncomputable def InsAt (N : Addr → Prop) (H : Hp) (a : Addr) (c : Nat) (ns : List Str) (xs : List V) : Prop :=
  (c < 1000 ∧ ∃ dx, H a = some (.ins (cl c) dx (ns.zip xs)) ∧ ¬ N a ∧ ns.length = xs.length) ∨ (a = cl c ∧ 1000 ≤ c ∧ H (cl (c + 1)) = some (.xd (ns.zip xs)) ∧ ¬ N (cl (c + 1)) ∧ ns.length = xs.length) ∨ (a = cl c ∧ 2000 ≤ c ∧ ns = [] ∧ xs = [])
mutual
inductive Rep (N : Addr → Prop) (H : Hp) : V → D → Prop
  | non : Rep N H .non .non
  | bl (b : Bool) : Rep N H (.bl b) (.bl b)
  | int (i : Int) : Rep N H (.int i) (.int i)
  | str (s : Str) : Rep N H (.str s) (.str s)
  | tup {a : Addr} {xs : List V} {ds : List D} : TupAt K N H a xs → RepL N H xs ds → Rep N H (.ref a) (.tup ds)
  | lst {a : Addr} {xs : List V} {ds : List D} : H a = some (.lst xs) → ¬ N a → RepL N H xs ds → Rep N H (.ref a) (.lst ds)
  | ro {a : Addr} {xs : List V} {ds : List D} : RoAt K N H a xs → RepL N H xs ds → Rep N H (.ref a) (.ro ds)
  | wt {a : Addr} {xs : List V} {ds : List D} : Rd H a (.tup xs) → ¬ N a → RepL N H xs ds → Rep N H (.ref a) (.wt ds)
  | dic {a : Addr} {ks : List Key} {xs : List V} {ds : List D} : H a = some (.dK (ks.zip xs)) → ¬ N a → ks.length = xs.length → RepL N H xs ds → Rep N H (.ref a) (.dic ks ds)
  | ins {a : Addr} {c : Nat} {ns : List Str} {xs : List V} {ds : List D} : InsAt cl N H a c ns xs → RepL N H xs ds → Rep N H (.ref a) (.ins c ns ds)
inductive RepL (N : Addr → Prop) (H : Hp) : List V → List D → Prop
  | nil : RepL N H [] []
  | cons {v : V} {vs : List V} {d : D} {ds : List D} : Rep N H v d → RepL N H vs ds → RepL N H (v :: vs) (d :: ds)
end
noncomputable def RepA (N : Addr → Prop) (H : Hp) (m : List Addr) (v : V) : A → Prop
  | .val d => Rep K cl N H v d
  | .ref i => ∃ a, m[i]? = some a ∧ v = .ref a
inductive RepAs (N : Addr → Prop) (H : Hp) (m : List Addr) : List V → List A → Prop
  | nil : RepAs N H m [] []
  | cons {v : V} {vs : List V} {x : A} {xs : List A} : RepA K cl N H m v x → RepAs N H m vs xs → RepAs N H m (v :: vs) (x :: xs)
noncomputable def RepO (N : Addr → Prop) (H : Hp) (m : List Addr) (a : Addr) : O → Prop
  | .lst ds => ∃ xs, H a = some (.lst xs) ∧ RepL K cl N H xs ds
  | .dic ks ds => ∃ xs, H a = some (.dK (ks.zip xs)) ∧ ks.length = xs.length ∧ RepL K cl N H xs ds
  | .ins c ns zs => ∃ dx xs, H a = some (.ins (cl c) dx (ns.zip xs)) ∧ ns.length = xs.length ∧ RepAs K cl N H m xs zs
end rep
/-- what may change: foreign things and the store's own -/
noncomputable def NN (B : Addr → Prop) (m : List Addr) : Addr → Prop := fun a => B a ∨ a ∈ m
section
variable {K : PySem.W.Frag} {cl : ClT} {N N' : Addr → Prop} {H H' : Hp} {m m' : List Addr}
theorem TupAt.seq {a : Addr} {xs : List V} (h : TupAt K N H a xs) : SqT K H a xs := by
  rcases h with ⟨ob, h, _⟩ | ⟨o, its, n, h1, h2, h3, h4⟩
  · exact .inl (.inr ⟨ob, h⟩)
  · exact .inr ⟨o, its, n, h1, h2, h4⟩
theorem RoAt.seq {a : Addr} {xs : List V} (h : RoAt K N H a xs) : SqL K H a xs := by
  rcases h with h | h
  · exact .inl h.1
  · exact .inr h
/-- what stays: all that may not change; what may change behind was such or was free -/
structure Kp (N N' : Addr → Prop) (H H' : Hp) : Prop where
  keep : ∀ a o, H a = some o → ¬ N a → NT o → H' a = some o
  may : ∀ a, N' a → N a ∨ H a = none
theorem Kp.kept (k : Kp N N' H H') (a : Addr) (o : HO) (h : H a = some o) (n : ¬ N a) (nt : NT o := by intro _ z; cases z) : H' a = some o := k.keep a o h n nt
theorem Kp.rd (k : Kp N N' H H') {a : Addr} {u : HO} (h : Rd H a u) (n : ¬ N a) (nt : NT u := by intro _ z; cases z) : Rd H' a u ∧ ¬ N' a := by
  constructor
  · rcases h with h | ⟨o, h⟩
    · exact .inl (k.kept _ _ h n nt)
    · exact .inr ⟨o, k.kept _ _ h n⟩
  · intro z
    rcases k.may a z with z | z
    · exact n z
    · rcases h with h | ⟨o, h⟩
      · rw [z] at h; cases h
      · rw [z] at h; cases h
theorem Kp.no (k : Kp N N' H H') {a : Addr} {u : HO} (h : H a = some u) (n : ¬ N a) : ¬ N' a := fun z => by
  rcases k.may a z with z | z
  · exact n z
  · rw [z] at h; cases h
theorem TupAt.mono (k : Kp N N' H H') {a : Addr} {xs : List V} (h : TupAt K N H a xs) : TupAt K N' H' a xs := by
  rcases h with ⟨ob, h, hd, n⟩ | h
  · exact .inl ⟨ob, k.kept _ _ h n, hd, k.no h n⟩
  · exact .inr h
theorem RoAt.mono (k : Kp N N' H H') {a : Addr} {xs : List V} (h : RoAt K N H a xs) : RoAt K N' H' a xs := by
  rcases h with ⟨h, n⟩ | h
  · exact .inl (k.rd h n)
  · exact .inr h
mutual
theorem Rep.mono (k : Kp N N' H H') : ∀ {v : V} {d : D}, Rep K cl N H v d → Rep K cl N' H' v d
  | _, _, .non => .non
  | _, _, .bl b => .bl b
  | _, _, .int b => .int b
  | _, _, .str b => .str b
  | _, _, .tup h r => .tup (h.mono k) (RepL.mono k r)
  | _, _, .lst h n r => .lst (k.kept _ _ h n) (k.no h n) (RepL.mono k r)
  | _, _, .ro h r => .ro (h.mono k) (RepL.mono k r)
  | _, _, .wt h n r => .wt (k.rd h n).1 (k.rd h n).2 (RepL.mono k r)
  | _, _, .dic h n l r => .dic (k.kept _ _ h n) (k.no h n) l (RepL.mono k r)
  | _, _, .ins h r => .ins (h.imp (fun ⟨i, dx, h, n, l⟩ => ⟨i, dx, k.kept _ _ h n, k.no h n, l⟩) fun z => z.imp (fun ⟨e, c, h, n, l⟩ => ⟨e, c, k.kept _ _ h n, k.no h n, l⟩) id) (RepL.mono k r)
theorem RepL.mono (k : Kp N N' H H') : ∀ {vs : List V} {ds : List D}, RepL K cl N H vs ds → RepL K cl N' H' vs ds
  | _, _, .nil => .nil
  | _, _, .cons h r => .cons (Rep.mono k h) (RepL.mono k r)
end
theorem RepA.mono (k : Kp N N' H H') (hm : ∃ r, m' = m ++ r) {v : V} : ∀ {x : A}, RepA K cl N H m v x → RepA K cl N' H' m' v x
  | .val d, h => Rep.mono k h
  | .ref i, ⟨a, h, e⟩ => by
    obtain ⟨r, rfl⟩ := hm
    exact ⟨a, by rw [List.getElem?_append_left (List.getElem?_eq_some_iff.mp h).1]; exact h, e⟩
theorem RepAs.mono (k : Kp N N' H H') (hm : ∃ r, m' = m ++ r) : ∀ {vs : List V} {xs : List A}, RepAs K cl N H m vs xs → RepAs K cl N' H' m' vs xs
  | _, _, .nil => .nil
  | _, _, .cons h r => .cons (h.mono k hm) (RepAs.mono k hm r)
theorem RepL.length : ∀ {vs : List V} {ds : List D}, RepL K cl N H vs ds → vs.length = ds.length
  | _, _, .nil => rfl
  | _, _, .cons _ r => congrArg (· + 1) r.length
theorem RepL.get : ∀ {vs : List V} {ds : List D} {i : Nat} {v : V}, RepL K cl N H vs ds → vs[i]? = some v → ∃ d, ds[i]? = some d ∧ Rep K cl N H v d
  | _, _, 0, _, .cons h _, e => ⟨_, rfl, by cases e; exact h⟩
  | _, _, i + 1, _, .cons _ r, e => RepL.get (i := i) r e
theorem RepL.got : ∀ {vs : List V} {ds : List D} {i : Nat} {d : D}, RepL K cl N H vs ds → ds[i]? = some d → ∃ v, vs[i]? = some v ∧ Rep K cl N H v d
  | _, _, 0, _, .cons h _, e => ⟨_, rfl, by cases e; exact h⟩
  | _, _, i + 1, _, .cons _ r, e => RepL.got (i := i) r e
theorem RepL.append : ∀ {vs ws : List V} {ds es : List D}, RepL K cl N H vs ds → RepL K cl N H ws es → RepL K cl N H (vs ++ ws) (ds ++ es)
  | _, _, _, _, .nil, s => s
  | _, _, _, _, .cons h r, s => .cons h (r.append s)
theorem RepL.take : ∀ {vs : List V} {ds : List D} (n : Nat), RepL K cl N H vs ds → RepL K cl N H (vs.take n) (ds.take n)
  | _, _, 0, _ => by rw [List.take_zero, List.take_zero]; exact .nil
  | _, _, _ + 1, .nil => .nil
  | _, _, n + 1, .cons h r => .cons h (r.take n)
theorem RepL.drop : ∀ {vs : List V} {ds : List D} (n : Nat), RepL K cl N H vs ds → RepL K cl N H (vs.drop n) (ds.drop n)
  | _, _, 0, r => r
  | _, _, _ + 1, .nil => .nil
  | _, _, n + 1, .cons _ r => r.drop n
theorem RepL.set {v : V} {d : D} (h0 : Rep K cl N H v d) : ∀ {vs : List V} {ds : List D} (n : Nat), RepL K cl N H vs ds → RepL K cl N H (vs.set n v) (ds.set n d)
  | _, _, _, .nil => .nil
  | _, _, 0, .cons _ r => .cons h0 r
  | _, _, n + 1, .cons h r => .cons h (RepL.set h0 n r)
theorem RepL.reverse : ∀ {vs : List V} {ds : List D}, RepL K cl N H vs ds → RepL K cl N H vs.reverse ds.reverse
  | _, _, .nil => .nil
  | _, _, .cons h r => by rw [List.reverse_cons, List.reverse_cons]; exact r.reverse.append (.cons h .nil)
structure Ok (K : PySem.W.Frag) (cl : ClT) (B : Addr → Prop) (H : Hp) (m : List Addr) (S : Store) : Prop where
  foreign : ∀ a, B a → H a ≠ none ∧ a ∉ m
  len : m.length = S.length
  nd : m.Nodup
  obj : ∀ (i : Nat) (a : Addr) (o : O), m[i]? = some a → S[i]? = some o → RepO K cl (NN B m) H m a o
  tabs : LamX.Tabs cl.T H
structure EnvOk (K : PySem.W.Frag) (cl : ClT) (N : Addr → Prop) (H : Hp) (m : List Addr) (σ : L2.St) (ρ : Slots) : Prop where
  len : ρ.length = σ.length
  get : ∀ (i : Nat) (x : A), ρ[i]? = some (some x) → ∃ v, σ[i]? = some (some v) ∧ RepA K cl N H m v x
structure Step (H : Hp) (m : List Addr) (H' : Hp) (m' : List Addr) : Prop where
  ext : ∃ r, m' = m ++ r ∧ ∀ a ∈ r, H a = none
  keep : ∀ a o, H a = some o → a ∉ m → NT o → H' a = some o
  stay : ∀ a, H a ≠ none → H' a ≠ none
theorem Step.kept {H H' : Hp} {m m' : List Addr} (s : Step H m H' m') (a : Addr) (o : HO) (h : H a = some o) (n : a ∉ m) (nt : NT o := by intro _ z; cases z) : H' a = some o := s.keep a o h n nt
theorem Step.refl {H : Hp} {m : List Addr} : Step H m H m := ⟨⟨[], by simp, by simp⟩, fun _ _ h _ _ => h, fun _ h => h⟩
theorem Step.some {H H' : Hp} {m m' : List Addr} (a : Step H m H' m') {b : Addr} (h : H b ≠ none) : H' b ≠ none := a.stay b h
theorem Step.trans {H H1 H2 : Hp} {m m1 m2 : List Addr} (a : Step H m H1 m1) (b : Step H1 m1 H2 m2) : Step H m H2 m2 := by
  obtain ⟨r, rfl, hr⟩ := a.ext
  obtain ⟨q, rfl, hq⟩ := b.ext
  refine ⟨⟨r ++ q, by rw [List.append_assoc], fun c hc => ?_⟩, fun c o h hc nt => ?_, fun c hn => b.some (a.some hn)⟩
  · rcases List.mem_append.mp hc with hc | hc
    · exact hr c hc
    · cases e : H c with
      | none => rfl
      | some o => exact absurd (hq c hc) (a.some (by rw [e]; exact fun z => by cases z))
  · refine b.keep c o (a.keep c o h hc nt) (fun z => ?_) nt
    rcases List.mem_append.mp z with z | z
    · exact hc z
    · rw [hr c z] at h; cases h
theorem Step.kp {B : Addr → Prop} (s : Step H m H' m') (hB : ∀ a, B a → a ∉ m) : Kp (NN B m) (NN B m') H H' := by
  obtain ⟨r, rfl, hr⟩ := s.ext
  refine ⟨fun a o h n nt => s.keep a o h (fun z => n (.inr z)) nt, fun a z => ?_⟩
  rcases z with z | z
  · exact .inl (.inl z)
  · rcases List.mem_append.mp z with z | z
    · exact .inl (.inr z)
    · exact .inr (hr a z)
theorem EnvOk.mono {σ : L2.St} {ρ : Slots} (k : Kp N N' H H') (hm : ∃ r, m' = m ++ r) (e : EnvOk K cl N H m σ ρ) : EnvOk K cl N' H' m' σ ρ := ⟨e.len, fun i x h => by
  obtain ⟨v, h1, h2⟩ := e.get i x h
  exact ⟨v, h1, h2.mono k hm⟩⟩
theorem EnvOk.set {σ : L2.St} {ρ : Slots} (e : EnvOk K cl N H m σ ρ) (i : Nat) {v : V} {x : A} (h : RepA K cl N H m v x) : EnvOk K cl N H m (σ.set i (some v)) (ρ.set i (some x)) := by
  refine ⟨by rw [List.length_set, List.length_set]; exact e.len, fun j y hj => ?_⟩
  by_cases hij : i = j
  · subst hij
    have hl : i < ρ.length := by
      have := (List.getElem?_eq_some_iff.mp hj).1
      rwa [List.length_set] at this
    rw [List.getElem?_set_self hl] at hj
    cases hj
    exact ⟨v, by rw [List.getElem?_set_self (by rw [← e.len]; exact hl)], h⟩
  · rw [List.getElem?_set_ne hij] at hj
    obtain ⟨w, h1, h2⟩ := e.get j y hj
    exact ⟨w, by rw [List.getElem?_set_ne hij]; exact h1, h2⟩
theorem Step.env {B : Addr → Prop} {S : Store} {σ : L2.St} {ρ : Slots} (s : Step H m H' m') (o : Ok K cl B H m S) (e : EnvOk K cl (NN B m) H m σ ρ) : EnvOk K cl (NN B m') H' m' σ ρ :=
  e.mono (s.kp fun a h => (o.foreign a h).2) (let ⟨r, h, _⟩ := s.ext; ⟨r, h⟩)
theorem Step.rep {B : Addr → Prop} {S : Store} {v : V} {x : A} (s : Step H m H' m') (o : Ok K cl B H m S) (e : RepA K cl (NN B m) H m v x) : RepA K cl (NN B m') H' m' v x :=
  e.mono (s.kp fun a h => (o.foreign a h).2) (let ⟨r, h, _⟩ := s.ext; ⟨r, h⟩)
theorem Step.reps {B : Addr → Prop} {S : Store} {vs : List V} {xs : List A} (s : Step H m H' m') (o : Ok K cl B H m S) (e : RepAs K cl (NN B m) H m vs xs) : RepAs K cl (NN B m') H' m' vs xs :=
  e.mono (s.kp fun a h => (o.foreign a h).2) (let ⟨r, h, _⟩ := s.ext; ⟨r, h⟩)
/-- an exception's object -/
noncomputable def ExcAt (K : PySem.W.Frag) (cl : ClT) (N : Addr → Prop) (H : Hp) (c : Value) (d : Option Addr) (e : X0) : Prop :=
  c = .ref (cl e.c) ∧ ((e.ns = [] ∧ e.vs = []) ∨ ∃ da xs, d = some da ∧ H da = some (.xd (e.ns.zip xs)) ∧ ¬ N da ∧ e.ns.length = xs.length ∧ RepL K cl N H xs e.vs)
noncomputable def Fin (K : PySem.W.Frag) (cl : ClT) (B : Addr → Prop) (σ : L2.St) (H : Hp) (m : List Addr) (W : WX) (r : Res) (Q : VK) : Prop :=
  match r with
  | .ok x S' => ∀ v H' m', Step H m H' m' → Ok K cl B H' m' S' → RepA K cl (NN B m') H' m' v x → Q v H'
  | .exc e S' => ∀ c d H' m', Step H m H' m' → Ok K cl B H' m' S' → ExcAt K cl (NN B m') H' c d e → W c d σ H'
  | .bad => False
noncomputable def FinL (K : PySem.W.Frag) (cl : ClT) (B : Addr → Prop) (σ : L2.St) (H : Hp) (m : List Addr) (W : WX) (r : LRes) (Q : List V → Hp → Prop) : Prop :=
  match r with
  | .ok xs S' => ∀ vs H' m', Step H m H' m' → Ok K cl B H' m' S' → RepAs K cl (NN B m') H' m' vs xs → Q vs H'
  | .exc e S' => ∀ c d H' m', Step H m H' m' → Ok K cl B H' m' S' → ExcAt K cl (NN B m') H' c d e → W c d σ H'
  | .bad => False
noncomputable def FinT (K : PySem.W.Frag) (cl : ClT) (B : Addr → Prop) (σ : L2.St) (H : Hp) (m : List Addr) (W : WX) (r : Res) (Q : Bool → Hp → Prop) : Prop :=
  match r with
  | .ok (.val (.bl b)) S' => ∀ H' m', Step H m H' m' → Ok K cl B H' m' S' → Q b H'
  | .ok _ _ => False
  | .exc e S' => ∀ c d H' m', Step H m H' m' → Ok K cl B H' m' S' → ExcAt K cl (NN B m') H' c d e → W c d σ H'
  | .bad => False
noncomputable def FinS (K : PySem.W.Frag) (cl : ClT) (B : Addr → Prop) (H : Hp) (m : List Addr) (W : WX) (r : SRes) (E : Ends) : Prop :=
  match r with
  | .nx ρ S' => ∀ σ H' m', Step H m H' m' → Ok K cl B H' m' S' → EnvOk K cl (NN B m') H' m' σ ρ → E.nx σ H'
  | .bk ρ S' => ∀ σ H' m', Step H m H' m' → Ok K cl B H' m' S' → EnvOk K cl (NN B m') H' m' σ ρ → E.bk σ H'
  | .ct ρ S' => ∀ σ H' m', Step H m H' m' → Ok K cl B H' m' S' → EnvOk K cl (NN B m') H' m' σ ρ → E.ct σ H'
  | .rt x S' => ∀ v H' m', Step H m H' m' → Ok K cl B H' m' S' → RepA K cl (NN B m') H' m' v x → E.rt v H'
  | .exc e ρ S' => ∀ c d σ H' m', Step H m H' m' → Ok K cl B H' m' S' → EnvOk K cl (NN B m') H' m' σ ρ → ExcAt K cl (NN B m') H' c d e → W c d σ H'
  | .bad => False
variable (K : PySem.W.Frag) (cl : ClT) (W : WX)
noncomputable def tM (c : CE) : TE := fun σ H Q => ∃ B m S ρ, Ok K cl B H m S ∧ EnvOk K cl (NN B m) H m σ ρ ∧ Fin K cl B σ H m W (c ρ S) Q
noncomputable def tML (c : CA) : TA := fun σ H Q => ∃ B m S ρ, Ok K cl B H m S ∧ EnvOk K cl (NN B m) H m σ ρ ∧ FinL K cl B σ H m W (c ρ S) Q
noncomputable def tMT (c : CE) : TT := fun σ H Q => ∃ B m S ρ, Ok K cl B H m S ∧ EnvOk K cl (NN B m) H m σ ρ ∧ FinT K cl B σ H m W (c ρ S) Q
noncomputable def tMS (c : CS) : TS := fun E σ H => ∃ B m S ρ, Ok K cl B H m S ∧ EnvOk K cl (NN B m) H m σ ρ ∧ FinS K cl B H m W (c ρ S) E
end
section
variable {K : PySem.W.Frag} {cl : ClT} {B : Addr → Prop} {H H1 : Hp} {m m1 : List Addr} {W : WX} {σ : L2.St}
theorem Fin.step (s : Step H m H1 m1) {r : Res} {Q : VK} (h : Fin K cl B σ H m W r Q) : Fin K cl B σ H1 m1 W r Q := by
  cases r with
  | ok x S' => exact fun v H' m' s' o r' => h v H' m' (s.trans s') o r'
  | exc e S' => exact fun c d H' m' s' o r' => h c d H' m' (s.trans s') o r'
  | bad => exact h
theorem FinL.step (s : Step H m H1 m1) {r : LRes} {Q : List V → Hp → Prop} (h : FinL K cl B σ H m W r Q) : FinL K cl B σ H1 m1 W r Q := by
  cases r with
  | ok x S' => exact fun v H' m' s' o r' => h v H' m' (s.trans s') o r'
  | exc e S' => exact fun c d H' m' s' o r' => h c d H' m' (s.trans s') o r'
  | bad => exact h
theorem FinS.step (s : Step H m H1 m1) {r : SRes} {E : Ends} (h : FinS K cl B H m W r E) : FinS K cl B H1 m1 W r E := by
  cases r with
  | nx _ _ => exact fun σ H' m' s' => h σ H' m' (s.trans s')
  | bk _ _ => exact fun σ H' m' s' => h σ H' m' (s.trans s')
  | ct _ _ => exact fun σ H' m' s' => h σ H' m' (s.trans s')
  | rt _ _ => exact fun v H' m' s' => h v H' m' (s.trans s')
  | exc _ _ _ => exact fun c d σ H' m' s' => h c d σ H' m' (s.trans s')
  | bad => exact h
end
abbrev Res.bind (r : Res) (f : A → Store → Res) : Res := match r with
  | .ok x S => f x S
  | .exc e S => .exc e S
  | .bad => .bad
abbrev LRes.bind (r : LRes) (f : List A → Store → Res) : Res := match r with
  | .ok x S => f x S
  | .exc e S => .exc e S
  | .bad => .bad
abbrev Res.bindS (r : Res) (ρ : Slots) (f : A → Store → SRes) : SRes := match r with
  | .ok x S => f x S
  | .exc e S => .exc e ρ S
  | .bad => .bad
section
variable {K : PySem.W.Frag} {cl : ClT} {B : Addr → Prop} {H H1 : Hp} {m m1 : List Addr} {W : WX} {σ : L2.St}
/-- the head of a bind: its value, then the rest from there -/
theorem Fin.bind {r : Res} {f : A → Store → Res} {Q : VK} {R : VK} (h : Fin K cl B σ H m W (r.bind f) Q)
    (k : ∀ x S' v H' m', Step H m H' m' → Ok K cl B H' m' S' → RepA K cl (NN B m') H' m' v x → Fin K cl B σ H' m' W (f x S') Q → R v H') : Fin K cl B σ H m W r R := by
  cases r with
  | ok x S' => exact fun v H' m' s o r => k x S' v H' m' s o r (Fin.step s h)
  | exc e S' => exact h
  | bad => exact h
theorem FinL.bind {r : LRes} {f : List A → Store → Res} {Q : VK} {R : List V → Hp → Prop} (h : Fin K cl B σ H m W (r.bind f) Q)
    (k : ∀ x S' v H' m', Step H m H' m' → Ok K cl B H' m' S' → RepAs K cl (NN B m') H' m' v x → Fin K cl B σ H' m' W (f x S') Q → R v H') : FinL K cl B σ H m W r R := by
  cases r with
  | ok x S' => exact fun v H' m' s o r => k x S' v H' m' s o r (Fin.step s h)
  | exc e S' => exact h
  | bad => exact h
end
end T3
namespace T3
open PySem PySem.Spec PyProof.Rows L2
theorem PE.imp {X : Cx} {e : Expr} {t u : TE} (h : PE X e t) (k : ∀ σ H Q, u σ H Q → t σ H Q) : PE X e u := ⟨fun pins s σ H Q I q => h.run pins s σ H Q I (k _ _ _ q)⟩
theorem PT.imp {X : Cx} {e : Expr} {t u : TT} (h : PT X e t) (k : ∀ σ H Q, u σ H Q → t σ H Q) : PT X e u := ⟨fun pins s σ H Q I q => h.run pins s σ H Q I (k _ _ _ q)⟩
theorem PA.imp {X : Cx} {e : List Expr} {t u : TA} (h : PA X e t) (k : ∀ σ H Q, u σ H Q → t σ H Q) : PA X e u := ⟨fun pos pins s σ H Q I q => h.run pos pins s σ H Q I (k _ _ _ q)⟩
theorem PS.imp {X : Cx} {st : Stmt} {t u : TS} (h : PS X st t) (k : ∀ E σ H, u E σ H → t E σ H) : PS X st u := ⟨fun pins s σ H E I q => h.run pins s σ H E I (k _ _ _ q)⟩
theorem PSs.imp {X : Cx} {st : List Stmt} {t u : TS} (h : PSs X st t) (k : ∀ E σ H, u E σ H → t E σ H) : PSs X st u := ⟨fun pins s σ H E I q => h.run pins s σ H E I (k _ _ _ q)⟩
noncomputable def szOk (n : Nat) : Bool := decide (n ≤ 16000000)
theorem szOk_line {n : Nat} (h : szOk n = true) : n ≤ sizeLine := Nat.le_trans (of_decide_eq_true h) (by decide)
theorem szOk_lt {n : Nat} (h : szOk n = true) : n < sizeLine := Nat.lt_of_le_of_lt (of_decide_eq_true h) (by decide)
section
variable {K : PySem.W.Frag} {cl : ClT} {N N' : Addr → Prop} {B : Addr → Prop} {H H' : Hp} {m : List Addr} {S : Store} {W : WX} {σ : L2.St} {Q : VK}
/-- fewer things may change -/
theorem TupAt.weak (h : ∀ a, N a → N' a) {a : Addr} {xs : List V} (t : TupAt K N' H a xs) : TupAt K N H a xs := by
  rcases t with ⟨ob, t, hd, n⟩ | t
  · exact .inl ⟨ob, t, hd, fun z => n (h a z)⟩
  · exact .inr t
theorem RoAt.weak (h : ∀ a, N a → N' a) {a : Addr} {xs : List V} (t : RoAt K N' H a xs) : RoAt K N H a xs := by
  rcases t with ⟨t, n⟩ | t
  · exact .inl ⟨t, fun z => n (h a z)⟩
  · exact .inr t
mutual
theorem Rep.weak (h : ∀ a, N a → N' a) : ∀ {v : V} {d : D}, Rep K cl N' H v d → Rep K cl N H v d
  | _, _, .non => .non
  | _, _, .bl b => .bl b
  | _, _, .int b => .int b
  | _, _, .str b => .str b
  | _, _, .tup t r => .tup (t.weak h) (RepL.weak h r)
  | _, _, .lst e n r => .lst e (fun z => n (h _ z)) (RepL.weak h r)
  | _, _, .ro t r => .ro (t.weak h) (RepL.weak h r)
  | _, _, .wt t n r => .wt t (fun z => n (h _ z)) (RepL.weak h r)
  | _, _, .dic e n l r => .dic e (fun z => n (h _ z)) l (RepL.weak h r)
  | _, _, .ins t r => .ins (t.imp (fun ⟨i, dx, e, n, l⟩ => ⟨i, dx, e, fun z => n (h _ z), l⟩) fun z => z.imp (fun ⟨e, c, x, n, l⟩ => ⟨e, c, x, fun z => n (h _ z), l⟩) id) (RepL.weak h r)
theorem RepL.weak (h : ∀ a, N a → N' a) : ∀ {vs : List V} {ds : List D}, RepL K cl N' H vs ds → RepL K cl N H vs ds
  | _, _, .nil => .nil
  | _, _, .cons t r => .cons (Rep.weak h t) (RepL.weak h r)
end
/-- what stands in the store is there -/
theorem RepO.there {a : Addr} {o : O} (h : RepO K cl N H m a o) : H a ≠ none := by
  cases o with
  | lst ds => obtain ⟨xs, e, _⟩ := h; rw [e]; exact fun z => by cases z
  | dic ks ds => obtain ⟨xs, e, _⟩ := h; rw [e]; exact fun z => by cases z
  | ins c ns zs => obtain ⟨dx, xs, e, _⟩ := h; rw [e]; exact fun z => by cases z
theorem nt_of {v : HO} (h : (∃ xs, v = .lst xs) ∨ (∃ xs, v = .dK xs) ∨ ∃ a b c, v = .ins a b c) : NT v ∧ ∀ φ, v ≠ .ext φ := by
  rcases h with ⟨_, rfl⟩ | ⟨_, rfl⟩ | ⟨_, _, _, rfl⟩ <;> constructor <;> intro _ z <;> cases z
theorem RepO.nt {a : Addr} {o : O} (h : RepO K cl N H m a o) {v : HO} (e : H a = some v) : NT v ∧ ∀ φ, v ≠ .ext φ := by
  cases o with
  | lst ds => obtain ⟨xs, e', _⟩ := h; rw [e'] at e; cases e; exact nt_of (.inl ⟨_, rfl⟩)
  | dic ks ds => obtain ⟨xs, e', _⟩ := h; rw [e'] at e; cases e; exact nt_of (.inr (.inl ⟨_, rfl⟩))
  | ins c ns zs => obtain ⟨dx, xs, e', _⟩ := h; rw [e'] at e; cases e; exact nt_of (.inr (.inr ⟨_, _, _, rfl⟩))
theorem Ok.at (o : Ok K cl B H m S) {i : Nat} {u : O} (h : S[i]? = some u) : ∃ a, m[i]? = some a ∧ RepO K cl (NN B m) H m a u := by
  have hl : i < m.length := by rw [o.len]; exact (List.getElem?_eq_some_iff.mp h).1
  exact ⟨m[i], List.getElem?_eq_getElem hl, o.obj i _ u (List.getElem?_eq_getElem hl) h⟩
theorem Ok.may (o : Ok K cl B H m S) {a : Addr} (h : NN B m a) : H a ≠ none := by
  rcases h with h | h
  · exact (o.foreign a h).1
  · obtain ⟨i, hi⟩ := List.mem_iff_getElem?.mp h
    have hl : i < S.length := by rw [← o.len]; exact (List.getElem?_eq_some_iff.mp hi).1
    exact (o.obj i a _ hi (List.getElem?_eq_getElem hl)).there
/-- what stands at an address of the store's own -/
theorem Ok.nt (o : Ok K cl B H m S) {a : Addr} (h : a ∈ m) : ∃ v, H a = some v ∧ NT v ∧ ∀ φ, v ≠ .ext φ := by
  obtain ⟨i, hi⟩ := List.mem_iff_getElem?.mp h
  have hl : i < S.length := by rw [← o.len]; exact (List.getElem?_eq_some_iff.mp hi).1
  have r := o.obj i a _ hi (List.getElem?_eq_getElem hl)
  cases e : H a with
  | none => exact absurd e r.there
  | some v => exact ⟨v, rfl, RepO.nt r e⟩
theorem Ok.fresh (o : Ok K cl B H m S) {p : Addr} (h : H p = none) : ¬ NN B m p := fun z => o.may z h
/-- a new object -/
theorem Step.new {p : Addr} {u : HO} (h : H p = none) : Step H m (upd H p u) m := ⟨⟨[], by simp, by simp⟩, fun a x e _ _ => by rw [upd_ne (ne_of_none e h)]; exact e, fun a e => by
  by_cases z : a = p
  · rw [z, upd_same]; exact fun q => by cases q
  · rw [upd_ne z]; exact e⟩
theorem Kp.new {p : Addr} {u : HO} (h : H p = none) : Kp N N H (upd H p u) := ⟨fun a x e _ _ => by rw [upd_ne (ne_of_none e h)]; exact e, fun _ z => .inl z⟩
theorem RepO.mono {N N' : Addr → Prop} {H H' : Hp} {m m' : List Addr} (k : Kp N N' H H') (hm : ∃ r, m' = m ++ r) {a : Addr} {u : O} (h : RepO K cl N H m a u) (e : H' a = H a) : RepO K cl N' H' m' a u := by
  cases u with
  | lst ds => obtain ⟨xs, e1, r⟩ := h; exact ⟨xs, e.trans e1, r.mono k⟩
  | dic ks ds => obtain ⟨xs, e1, l, r⟩ := h; exact ⟨xs, e.trans e1, l, r.mono k⟩
  | ins c ns zs => obtain ⟨dx, xs, e1, l, r⟩ := h; exact ⟨dx, xs, e.trans e1, l, r.mono k hm⟩
/-- tables stay where nothing of theirs is written -/
theorem tabs_upd {T : List (Addr × Str)} {H : Hp} {p : Addr} {u : HO} (h : H p = none ∨ (∃ o, H p = some o ∧ NT o ∧ ∀ φ, o ≠ .ext φ)) (t : LamX.Tabs T H) : LamX.Tabs T (upd H p u) := by
  intro q hq
  obtain ⟨ps, h1, h2, h3⟩ := t q hq
  have ne : ∀ {b : Addr} {o : HO}, H b = some o → (¬ NT o ∨ ∃ φ, o = .ext φ) → b ≠ p := fun {b o} e ht z => by
    rw [z] at e
    rcases h with h | ⟨o', h, n1, n2⟩
    · rw [h] at e; cases e
    · rw [h] at e
      cases e
      rcases ht with ht | ⟨φ, ht⟩
      · exact ht n1
      · exact n2 φ ht
  refine ⟨ps, by rw [upd_ne (ne h1 (.inl fun z => z ps rfl))]; exact h1, h2, fun pos cv hc => ?_⟩
  obtain ⟨c, e1, e2⟩ := h3 pos cv hc
  exact ⟨c, e1, by rw [upd_ne (ne e2 (.inr ⟨_, rfl⟩))]; exact e2⟩
theorem Ok.new (o : Ok K cl B H m S) {p : Addr} {u : HO} (h : H p = none) : Ok K cl B (upd H p u) m S := by
  refine ⟨fun a z => ⟨(Step.new h (m := m)).some (o.foreign a z).1, (o.foreign a z).2⟩, o.len, o.nd, fun i a x hi hx => ?_, tabs_upd (.inl h) o.tabs⟩
  have r := o.obj i a x hi hx
  exact r.mono (Kp.new h) ⟨[], by simp⟩ (upd_ne (fun z => r.there (z ▸ h)))
/-- a new object of the store -/
theorem Step.adopt {p : Addr} {u : HO} (h : H p = none) : Step H m (upd H p u) (m ++ [p]) :=
  ⟨⟨[p], rfl, fun a ha => by rw [List.mem_singleton.mp ha]; exact h⟩, fun a o e hn nt => (Step.new h).keep a o e hn nt, (Step.new h (m := m)).stay⟩
theorem Kp.adopt {p : Addr} {u : HO} (h : H p = none) : Kp (NN B m) (NN B (m ++ [p])) H (upd H p u) := ⟨fun a x e _ _ => by rw [upd_ne (ne_of_none e h)]; exact e, fun a z => by
  rcases z with z | z
  · exact .inl (.inl z)
  · rcases List.mem_append.mp z with z | z
    · exact .inl (.inr z)
    · rw [List.mem_singleton.mp z]; exact .inr h⟩
theorem Ok.adopt (o : Ok K cl B H m S) {p : Addr} {u : HO} {x : O} (h : H p = none) (r : RepO K cl (NN B (m ++ [p])) (upd H p u) (m ++ [p]) p x) : Ok K cl B (upd H p u) (m ++ [p]) (S ++ [x]) := by
  have hp : p ∉ m := fun z => o.may (.inr z) h
  refine ⟨fun a z => ⟨(Step.new h (m := m)).some (o.foreign a z).1, fun q => ?_⟩, by simp [o.len], ?_, fun i a y hi hy => ?_, tabs_upd (.inl h) o.tabs⟩
  · rcases List.mem_append.mp q with q | q
    · exact (o.foreign a z).2 q
    · rw [List.mem_singleton.mp q] at z; exact (o.foreign p z).1 h
  · rw [List.nodup_append]
    exact ⟨o.nd, by simp, fun a ha b hb => by rw [List.mem_singleton.mp hb]; exact fun e => hp (e ▸ ha)⟩
  · by_cases hl : i < m.length
    · rw [List.getElem?_append_left hl] at hi
      rw [List.getElem?_append_left (by rw [← o.len]; exact hl)] at hy
      have q := o.obj i a y hi hy
      exact q.mono (Kp.adopt h) ⟨[p], rfl⟩ (upd_ne (fun z => q.there (z ▸ h)))
    · have hi' := (List.getElem?_eq_some_iff.mp hi).1
      have e : i = m.length := by simp at hi'; omega
      subst e
      rw [List.getElem?_append_right (Nat.le_refl _)] at hi
      rw [o.len, List.getElem?_append_right (Nat.le_refl _)] at hy
      simp at hi hy
      subst hi hy
      exact r
/-- a new list: what it becomes in the data (fr: nobody changes it) -/
noncomputable def mkL (fr : Bool) (ds : List D) (S : Store) : Res := if fr then .ok (.val (.lst ds)) S else .ok (.ref S.length) (S ++ [.lst ds])
theorem mkL_ok {fr : Bool} {ds : List D} {xs : List V} {p : Addr} (o : Ok K cl B H m S) (r : RepL K cl (NN B m) H xs ds) (hp : H p = none) (h : Fin K cl B σ H m W (mkL fr ds S) Q) : Q (.ref p) (upd H p (.lst xs)) := by
  cases fr with
  | true => exact h _ _ _ (Step.new hp) (o.new hp) (.lst upd_same (o.fresh hp) (r.mono (Kp.new hp)))
  | false => exact h _ _ _ (Step.adopt hp) (o.adopt hp ⟨xs, upd_same, r.mono (Kp.adopt hp)⟩) ⟨p, by rw [← o.len, List.getElem?_append_right (Nat.le_refl _)]; simp, rfl⟩
/-- what is wanted of a new tuple -/
noncomputable def NewT (xs : List V) (H : Hp) (Q : VK) : Prop := ∀ (p : Addr) (ob : Obj), ob.dict = none → H p = none → Q (.ref p) (upd H p (.frz ob (.tup xs)))
theorem mkT_ok {ds : List D} {xs : List V} (o : Ok K cl B H m S) (r : RepL K cl (NN B m) H xs ds) (h : Fin K cl B σ H m W (.ok (.val (.tup ds)) S) Q) : NewT xs H Q :=
  fun p ob hd hp => h _ _ _ (Step.new hp) (o.new hp) (.tup (.inl ⟨ob, upd_same, hd, o.fresh hp⟩) (r.mono (Kp.new hp)))
/-- a value at hand -/
theorem Fin.here {x : A} {v : V} (h : Fin K cl B σ H m W (.ok x S) Q) (o : Ok K cl B H m S) (r : RepA K cl (NN B m) H m v x) : Q v H := h v H m Step.refl o r
noncomputable def valsOf : List A → Option (List D)
  | [] => some []
  | .val d :: r => (valsOf r).map (d :: ·)
  | .ref _ :: _ => none
theorem valsOf_ok : ∀ {vs : List V} {xs : List A} {ds : List D}, RepAs K cl N H m vs xs → valsOf xs = some ds → RepL K cl N H vs ds
  | _, _, _, .nil, h => by cases h; exact .nil
  | _, _, _, .cons (x := .val d) r q, h => by
    simp only [valsOf, Option.map_eq_some_iff] at h
    obtain ⟨ds, h, rfl⟩ := h
    exact .cons r (valsOf_ok q h)
  | _, _, _, .cons (x := .ref _) _ _, h => by cases h
/-- a list that is read -/
noncomputable def asL (S : Store) : A → Option (List D)
  | .val (.lst ds) => some ds
  | .val (.ro ds) => some ds
  | .ref i => match S[i]? with
    | some (.lst ds) => some ds
    | _ => none
  | _ => none
/-- a list of our own making -/
noncomputable def asM (S : Store) : A → Option (List D)
  | .val (.lst ds) => some ds
  | .ref i => match S[i]? with
    | some (.lst ds) => some ds
    | _ => none
  | _ => none
noncomputable def asT : A → Option (List D)
  | .val (.tup ds) => some ds
  | _ => none
theorem asL_ok (o : Ok K cl B H m S) {v : V} {x : A} {ds : List D} (r : RepA K cl (NN B m) H m v x) (h : asL S x = some ds) : ∃ a vs, v = .ref a ∧ SqL K H a vs ∧ RepL K cl (NN B m) H vs ds := by
  cases x with
  | ref i =>
    obtain ⟨a, ha, rfl⟩ := r
    simp only [asL] at h
    split at h <;> cases h
    rename_i hs
    obtain ⟨xs, e, q⟩ := o.obj i a _ ha hs
    exact ⟨a, xs, rfl, .of e, q⟩
  | val d =>
    cases d <;> simp only [asL] at h <;> cases h
    · cases r with
      | lst e n q => exact ⟨_, _, rfl, .of e, q⟩
    · cases r with
      | ro e q => exact ⟨_, _, rfl, e.seq, q⟩
theorem asM_ok (o : Ok K cl B H m S) {v : V} {x : A} {ds : List D} (r : RepA K cl (NN B m) H m v x) (h : asM S x = some ds) : ∃ a vs, v = .ref a ∧ H a = some (.lst vs) ∧ RepL K cl (NN B m) H vs ds := by
  cases x with
  | ref i =>
    obtain ⟨a, ha, rfl⟩ := r
    simp only [asM] at h
    split at h <;> cases h
    rename_i hs
    obtain ⟨xs, e, q⟩ := o.obj i a _ ha hs
    exact ⟨a, xs, rfl, e, q⟩
  | val d =>
    cases d <;> simp only [asM] at h <;> cases h
    cases r with
    | lst e n q => exact ⟨_, _, rfl, e, q⟩
theorem asT_ok {v : V} {x : A} {ds : List D} (r : RepA K cl N H m v x) (h : asT x = some ds) : ∃ a vs, v = .ref a ∧ SqT K H a vs ∧ RepL K cl N H vs ds := by
  cases x with
  | ref i => cases h
  | val d =>
    cases d <;> simp only [asT] at h <;> cases h
    cases r with
    | tup e q => exact ⟨_, _, rfl, e.seq, q⟩
end
end T3
namespace T3
open PySem PySem.Spec PyProof.Rows L2
section
variable {X : Cx} {pins : List (Addr × Obj)} {σ : L2.St} {H : Hp} {s : Shared} {Q : VK}
theorem laidZ {its : List Value} {xs : List V} {n : Nat} {t' : Nat} (I : Inv X pins σ H s) (r : Vals xs its) (hz : xs.length ≤ sizeLine) (h : NewT xs H Q) :
    ∃ v H', Inv X pins σ H' { s with heap := s.heap.push { cls := .type "tuple", data := .seq its.toArray n }, toks := t' } ∧ RelV v (.ref s.heap.objs.size) ∧ Q v H' := by
  have e := Heap.get?_push_size (o := { cls := .type "tuple", data := .seq its.toArray n }) s.heap rfl
  refine ⟨.ref s.heap.objs.size, _, I.laid (t' := t') (o := .frz { cls := .type "tuple", data := .seq its.toArray n } (.tup xs)) (fun b u q => Heap.get?_push_of_some _ q) (Nat.le_refl _) ?_, rfl, h _ _ rfl (I.hok.fresh (Nat.le_refl _))⟩
  exact ⟨e, hz, its, r, ⟨_, e, rfl, n, rfl⟩⟩
end
section
variable {X : Cx}
noncomputable def tTupZ (ta : TA) : TE := fun σ H Q => ta σ H fun xs H1 => xs.length ≤ sizeLine ∧ NewT xs H1 Q
theorem pe_tupZ {es : List Expr} {t : TA} {x1} {pos : Pos} (h : PA X es t) : PE X (.Tuple es x1 pos) (tTupZ t) := by
  refine ⟨fun pins s σ H Q I hq => wpAny_Tuple_spliced (thn (h.run pos pins s σ H _ I hq) fun us s1 w => ?_)⟩
  obtain ⟨xs, H1, I1, r, z, q⟩ := w
  obtain ⟨v, H2, I2, rv, q2⟩ := laidZ (n := 0) (t' := s1.toks) I1 r z q
  exact ⟨by rw [← r.length]; exact z, v, H2, I2, rv, q2⟩
noncomputable def rTupZ (K : PySem.W.Frag) : List V → Hp → VK → Prop := fun xs H Q => ∃ p ys, xs = [.ref p] ∧ ((SqL K H p ys ∧ NewT ys H Q) ∨ (SqT K H p ys ∧ Q (.ref p) H))
theorem call_tupleZ : CallR X (.type "tuple") (rTupZ X.K) := by
  intro pins s σ H xs us Q I r h
  obtain ⟨p, ys, rfl, h⟩ := h
  obtain ⟨u, rfl, rx⟩ := vals1 r
  cases rx
  rcases h with h | h
  · obtain ⟨its, r2, pl, hz⟩ := I.list h.1
    have hlen := r2.length
    refine call_tuple_list pl.isList (fun h' kp => ?_) (by rw [List.size_toArray]; omega)
    have I1 : Inv X pins σ H { s with heap := h' } := I.kept (t' := s.toks) kp
    obtain ⟨v, H2, I2, rv, q2⟩ := laidZ (n := 0) (t' := s.toks) I1 r2 hz h.2
    exact ⟨v, H2, I2, rv, q2⟩
  · obtain ⟨its, r2, pl, hz⟩ := I.tuple h.1
    exact call_tuple_same pl ⟨.ref p, H, I, rfl, h.2⟩
noncomputable def rDmZ : List V → Hp → VK → Prop := fun xs H Q => ∃ i j, xs = [.int i, .int j] ∧ CDiv i j ∧ NewT [.int (i / j), .int (i % j)] H Q
theorem call_divmodZ : CallR X (.builtin "divmod") rDmZ := by
  intro pins s σ H xs us Q I r h
  obtain ⟨i, j, rfl, c, q⟩ := h
  have c1 := c.1
  have c2 := c.2
  obtain ⟨u, w', rfl, ⟨t, rfl⟩, ⟨t', rfl⟩⟩ := vals2 r
  refine divmod_int (by omega) ?_ (.inl (PyProof.noPylong_small (by omega)))
  rw [Int.fdiv_eq_ediv_of_nonneg i (by omega), Int.fmod_eq_emod_of_nonneg i (by omega)]
  obtain ⟨v, H2, I2, rv, q2⟩ := laidZ (xs := [.int (i / j), .int (i % j)]) (its := [.int (i / j) s.toks, .int (i % j) (s.toks + 1)]) (n := 0) (t' := s.toks + 2) I (.cons ⟨_, rfl⟩ (.cons ⟨_, rfl⟩ .nil)) (by show 2 ≤ sizeLine; rw [sizeLine_eq]; decide) q
  exact ⟨v, H2, I2, rv, q2⟩
noncomputable def rSlZ (K : PySem.W.Frag) : V → Option Int → Option Int → Hp → VK → Prop := fun x lo hi H Q => ∃ a xs, x = .ref a ∧ SqT K H a xs ∧
  (HT.sIx xs.length 0 lo = 0 ∧ HT.sIx xs.length xs.length hi = xs.length → Q (.ref a) H) ∧ (¬ (HT.sIx xs.length 0 lo = 0 ∧ HT.sIx xs.length xs.length hi = xs.length) → NewT (cutV xs lo hi) H Q)
theorem sl_tupZ : SlR X (rSlZ X.K) := by
  intro pins s σ H x v vl vu lo hi sl Q I rx hs pl pu h
  obtain ⟨a, xs, rfl, hx, q1, q2⟩ := h
  by_cases hw : HT.sIx xs.length 0 lo = 0 ∧ HT.sIx xs.length xs.length hi = xs.length
  · exact sl_tupA pins s σ H _ v vl vu lo hi sl Q I rx hs pl pu ⟨a, xs, rfl, hx, q1, fun z => absurd hw z⟩
  · cases rx
    obtain ⟨its, r, ht, hz⟩ := I.tuple hx
    have hlen : its.toArray.size = xs.length := by rw [List.size_toArray, r.length]
    refine ⟨"tuple", _, PyProof.Rows.slot_tuple_getitem.lookup, ht.typeIs, HT.getItem_tuple_cut ht hs pl pu (by rw [hlen]; exact hw) ?_ (by rw [hlen]; exact hz)⟩
    rw [hlen]
    obtain ⟨v, H2, I2, rv, q3⟩ := laidZ (n := 0) (t' := s.toks) I ((r.drop (HT.sIx xs.length 0 lo)).take (HT.sIx xs.length xs.length hi - HT.sIx xs.length 0 lo)) (Nat.le_trans (cutV_length xs lo hi) hz) (q2 hw)
    exact ⟨v, H2, I2, rv, q3⟩
noncomputable def rCatZ (K : PySem.W.Frag) : R2 := fun x y H Q => ∃ a b xs ys, x = .ref a ∧ y = .ref b ∧ SqT K H a xs ∧ SqT K H b ys ∧ xs.length + ys.length ≤ sizeLine ∧
  (xs = [] → Q (.ref b) H) ∧ (xs ≠ [] → ys = [] → Q (.ref a) H) ∧ (xs ≠ [] → ys ≠ [] → NewT (xs ++ ys) H Q)
theorem op_catZ : OpR X (binaryOp .Add) (rCatZ X.K) := by
  intro pins s σ H x y v u Q I rx ry h
  obtain ⟨a, b, xs, ys, rfl, rfl, ha, hb, hz, q0, q1, q2⟩ := h
  by_cases hx : xs = []
  · exact op_catA pins s σ H _ _ v u Q I rx ry ⟨a, b, xs, ys, rfl, rfl, ha, hb, hz, q0, q1, fun z => absurd hx z⟩
  · cases rx
    cases ry
    obtain ⟨its, r1, p1, _⟩ := I.tuple ha
    obtain ⟨its2, r2, p2, _⟩ := I.tuple hb
    refine HT.cat_tup p1 p2 (fun z => hx (r1.nil_iff.mp z)) (fun z => ⟨.ref a, H, I, rfl, q1 hx (r2.nil_iff.mp z)⟩) (fun z => ?_) (by rw [← r1.length, ← r2.length]; exact hz)
    obtain ⟨v, H2, I2, rv, q3⟩ := laidZ (n := 0) (t' := s.toks) I (r1.append r2) (by rw [List.length_append]; exact hz) (q2 hx fun w => z (r2.nil_iff.mpr w))
    exact ⟨v, H2, I2, rv, q3⟩
/-- t * k -/
noncomputable def rRepZ (K : PySem.W.Frag) : R2 := fun x y H Q => ∃ l k xs, x = .ref l ∧ y = .int k ∧ SqT K H l xs ∧ xs ≠ [] ∧ 2 ≤ k ∧ k ≤ 1000 ∧ xs.length ≤ 1000 ∧ NewT (List.replicate k.toNat xs).flatten H Q
theorem op_repZ : OpR X (binaryOp .Mult) (rRepZ X.K) := by
  intro pins s σ H x y v u Q I rx ry h
  obtain ⟨l, k, xs, rfl, rfl, hT, hne, h1, h2, hz, q⟩ := h
  cases rx
  obtain ⟨t, rfl⟩ := ry
  obtain ⟨its, r, ⟨⟨cls, dd, data, sl⟩, ho, hc, n, hd⟩, hs⟩ := I.tuple hT
  simp only at hc hd
  subst hc hd
  have hle : its.length = xs.length := r.length.symm
  have hi : its.toArray.isEmpty = false := by
    cases its with
    | nil => exact absurd (List.eq_nil_of_length_eq_zero hle.symm) hne
    | cons a b => rfl
  have sz : its.toArray.size = xs.length := by rw [List.size_toArray, hle]
  have kz : k.toNat * xs.length ≤ 1000 * 1000 := Nat.mul_le_mul (by omega) hz
  have hm : ((its.toArray.size : Nat) : Int) * k ≤ 1000000 := by
    rw [sz]
    have := Int.mul_le_mul_of_nonneg_right (show ((xs.length : Nat) : Int) ≤ 1000 by omega) (show 0 ≤ k by omega)
    omega
  have flen : (List.replicate k.toNat its).flatten.length ≤ sizeLine := by
    rw [PyProof.Rows.lm_len_rep_flat, hle, sizeLine_eq]
    omega
  have c0 : (decide (k < -(2 ^ 63)) || decide (k ≥ 2 ^ 63)) = false := by
    rw [Bool.or_eq_false_iff]
    exact ⟨decide_eq_false (by omega), decide_eq_false (by omega)⟩
  have c1 : (its.toArray.isEmpty || k == 1) = false := by
    rw [Bool.or_eq_false_iff]
    exact ⟨hi, beq_eq_false_iff_ne.mpr (by omega)⟩
  have c2 : (decide (k ≤ 0) || its.toArray.isEmpty) = false := by
    rw [Bool.or_eq_false_iff]
    exact ⟨decide_eq_false (by omega), hi⟩
  have c4 : Builtin.Tuple.tupleTooMany (((its.toArray.size : Nat) : Int) * k) = false := by
    unfold Builtin.Tuple.tupleTooMany
    exact decide_eq_false (by rw [sizeLine_eq]; omega)
  have last := laidZ (n := 0) (t' := s.toks) I (r.rep k.toNat) (by rw [PyProof.Rows.lm_len_rep_flat, sizeLine_eq]; omega) q
  refine wpAny_binaryOp_repeat_ref (T := "tuple") (U := "int") (by decide) ⟨_, ho, rfl⟩ (fun s' => typeIs_int s' k t) noFill_tuple_mul F.fills_int_mul F.slot_int_rmul repeat_tuple F.slot_int_index.lookup
    (call_meets F.slot_int_rmul (typeIs_int s k t) F.entry_int_rmul (F.args_int_rmul_2 _ _) (int_rmul_tuple k t l its.toArray n dd sl) ⟨ho, rfl, ⟨_, ho, rfl⟩, ?_⟩)
  refine call_meets F.slot_tuple_mul ⟨_, ho, rfl⟩ F.entry_tuple_mul (F.args_tuple_mul_2 _ _) (tuple_mulW l its.toArray n dd sl k t c0 c1 c2 (by omega) c4 (by rw [size_rep, List.size_toArray]; exact flen)) ⟨ho, ?_⟩
  rw [size_rep]
  obtain ⟨v, H2, I2, rv, q3⟩ := last
  exact ⟨v, H2, I2, rv, q3⟩
end
end T3
namespace T3
open PySem PySem.Spec PyProof.Rows L2
noncomputable def cV (i : Nat) : CE := fun ρ S => match ρ[i]? with
  | some (some x) => .ok x S
  | _ => .bad
noncomputable def cK (d : D) : CE := fun _ S => .ok (.val d) S
abbrev cI (i : Int) : CE := cK (.int i)
abbrev cB (b : Bool) : CE := cK (.bl b)
abbrev cN : CE := cK .non
abbrev cS (s : Str) : CE := cK (.str s)
noncomputable def cBin (f : A → A → Store → Res) (ca cb : CE) : CE := fun ρ S => (ca ρ S).bind fun x S1 => (cb ρ S1).bind fun y S2 => f x y S2
noncomputable def cUn (f : A → Store → Res) (ca : CE) : CE := fun ρ S => (ca ρ S).bind f
noncomputable def cNil : CA := fun _ S => .ok [] S
noncomputable def cCons (c : CE) (r : CA) : CA := fun ρ S => match c ρ S with
  | .ok x S1 => (match r ρ S1 with
    | .ok xs S2 => .ok (x :: xs) S2
    | .exc e S2 => .exc e S2
    | .bad => .bad)
  | .exc e S1 => .exc e S1
  | .bad => .bad
noncomputable def cTup (c : CA) : CE := fun ρ S => (c ρ S).bind fun xs S1 => match valsOf xs with
  | some ds => if szOk ds.length then .ok (.val (.tup ds)) S1 else .bad
  | none => .bad
noncomputable def cLst (fr : Bool) (c : CA) : CE := fun ρ S => (c ρ S).bind fun xs S1 => match valsOf xs with
  | some ds => if szOk ds.length then mkL fr ds S1 else .bad
  | none => .bad
/-- truth -/
noncomputable def tru (S : Store) : A → Option Bool
  | .val .non => some false
  | .val (.bl b) => some b
  | .val (.int i) => some (i != 0)
  | .val (.str s) => if szOk s.length then some (s.length != 0) else none
  | .val (.tup ds) => some (!ds.isEmpty)
  | x => match asL S x with
    | some ds => some (!ds.isEmpty)
    | none => none
noncomputable def cIf (ct ca cb : CE) : CE := fun ρ S => (ct ρ S).bind fun x S1 => match x with
  | .val (.bl true) => ca ρ S1
  | .val (.bl false) => cb ρ S1
  | _ => .bad
/-- a test by truth: the bool -/
noncomputable def cTru (c : CE) : CE := fun ρ S => (c ρ S).bind fun x S1 => match tru S1 x with
  | some b => .ok (.val (.bl b)) S1
  | none => .bad
/-- and, or as tests of bools -/
noncomputable def cAnd (c d : CE) : CE := cIf c d (cB false)
noncomputable def cOr (c d : CE) : CE := cIf c (cB true) d
noncomputable def cNot (c : CE) : CE := cIf c (cB false) (cB true)
section
variable {X : Cx} {cl : ClT} {W : WX}
/-- what a rule on two values asks: the data's own step -/
noncomputable def OpOk (K : PySem.W.Frag) (cl : ClT) (r : R2) (f : A → A → Store → Res) : Prop :=
  ∀ {B : Addr → Prop} {H : Hp} {m : List Addr} {S : Store} {σ : L2.St} {W : WX} {v w : V} {x y : A} {Q : VK}, Ok K cl B H m S → RepA K cl (NN B m) H m v x → RepA K cl (NN B m) H m w y → Fin K cl B σ H m W (f x y S) Q → r v w H Q
noncomputable def UnOk (K : PySem.W.Frag) (cl : ClT) (r : V → Hp → VK → Prop) (f : A → Store → Res) : Prop :=
  ∀ {B : Addr → Prop} {H : Hp} {m : List Addr} {S : Store} {σ : L2.St} {W : WX} {v : V} {x : A} {Q : VK}, Ok K cl B H m S → RepA K cl (NN B m) H m v x → Fin K cl B σ H m W (f x S) Q → r v H Q
noncomputable def CaOk (K : PySem.W.Frag) (cl : ClT) (r : List V → Hp → VK → Prop) (f : List A → Store → Res) : Prop :=
  ∀ {B : Addr → Prop} {H : Hp} {m : List Addr} {S : Store} {σ : L2.St} {W : WX} {vs : List V} {xs : List A} {Q : VK}, Ok K cl B H m S → RepAs K cl (NN B m) H m vs xs → Fin K cl B σ H m W (f xs S) Q → r vs H Q
noncomputable def MtOk (K : PySem.W.Frag) (cl : ClT) (r : V → List V → Hp → VK → Prop) (f : A → List A → Store → Res) : Prop :=
  ∀ {B : Addr → Prop} {H : Hp} {m : List Addr} {S : Store} {σ : L2.St} {W : WX} {v : V} {x : A} {vs : List V} {xs : List A} {Q : VK}, Ok K cl B H m S → RepA K cl (NN B m) H m v x → RepAs K cl (NN B m) H m vs xs → Fin K cl B σ H m W (f x xs S) Q → r v vs H Q
theorem pm_v (i : Nat) {x : Str} {pos : Pos} (hN : X.N[i]? = some x := by rfl) (hv : Vis X.env.scope x := by first | exact Or.inl rfl | exact Or.inr (Or.inl rfl) | exact Or.inr (Or.inr rfl)) (hd : (x == ("__debug__" : Str)) = false := by decide)
    (hcd : (x == ("__classdict__" : Str)) = false := by decide) : PE X (.Name x pos) (tM X.K cl W (cV i)) := by
  refine PE.imp (pe_var hN hv hd hcd) fun σ H Q h => ?_
  obtain ⟨B, m, S, ρ, o, e, f⟩ := h
  show ∃ v, σ[i]? = some (some v) ∧ Q v H
  unfold cV at f
  split at f
  · rename_i x hx
    obtain ⟨v, h1, h2⟩ := e.get i x hx
    exact ⟨v, h1, f.here o h2⟩
  · exact f.elim
theorem pm_c {e : Expr} {v : V} {d : D} (h : PE X e (tC v)) (r : ∀ N H, Rep X.K cl N H v d) : PE X e (tM X.K cl W (cK d)) := by
  refine PE.imp h fun σ H Q h => ?_
  obtain ⟨B, m, S, ρ, o, e, f⟩ := h
  exact f.here o (x := .val d) (r _ _)
theorem pm_int {i j pos} : PE X (.Constant (.int i) j pos) (tM X.K cl W (cI i)) := pm_c pe_int fun _ _ => .int i
theorem pm_bl {b j pos} : PE X (.Constant (.bool b) j pos) (tM X.K cl W (cB b)) := pm_c pe_bl fun _ _ => .bl b
theorem pm_non {j pos} : PE X (.Constant .none j pos) (tM X.K cl W cN) := pm_c pe_non fun _ _ => .non
theorem pm_str {x j pos} : PE X (.Constant (.str x) j pos) (tM X.K cl W (cS x)) := pm_c pe_str fun _ _ => .str x
/-- two operands, then a rule by values -/
theorem tOp_ok {r : R2} {f : A → A → Store → Res} {ca cb : CE} (hf : OpOk X.K cl r f) {σ : L2.St} {H : Hp} {Q : VK} (h : tM X.K cl W (cBin f ca cb) σ H Q) : tOp r (tM X.K cl W ca) (tM X.K cl W cb) σ H Q := by
  obtain ⟨B, m, S, ρ, o, e, fin⟩ := h
  refine ⟨B, m, S, ρ, o, e, Fin.bind fin fun x S1 v H1 m1 s1 o1 r1 f1 => ?_⟩
  refine ⟨B, m1, S1, ρ, o1, s1.env o e, Fin.bind f1 fun y S2 w H2 m2 s2 o2 r2 f2 => ?_⟩
  exact hf o2 (s2.rep o1 r1) r2 f2
theorem pm_op {a b : Expr} {op : Operator} {r : R2} {f : A → A → Store → Res} {ca cb : CE} {pos : Pos} (ho : OpR X (binaryOp op) r) (hf : OpOk X.K cl r f) (ha : PE X a (tM X.K cl W ca)) (hb : PE X b (tM X.K cl W cb)) :
    PE X (.BinOp a op b pos) (tM X.K cl W (cBin f ca cb)) := PE.imp (pe_op ho ha hb) fun _ _ _ h => tOp_ok hf h
theorem pm_cmp {a b : Expr} {op : CmpOp} {r : R2} {f : A → A → Store → Res} {ca cb : CE} {pos : Pos} (ho : OpR X (compareOp op) r) (hf : OpOk X.K cl r f) (ha : PE X a (tM X.K cl W ca)) (hb : PE X b (tM X.K cl W cb))
    (hm : behindInMarks op b = false := by first | exact nobehind _ (by decide) (by decide) | rfl) : PE X (.Compare a [op] [b] pos) (tM X.K cl W (cBin f ca cb)) := PE.imp (pe_cmpR ho ha hb hm) fun _ _ _ h => tOp_ok hf h
theorem pm_ix {a b : Expr} {r : R2} {f : A → A → Store → Res} {ca cb : CE} {pos : Pos} (ho : IxR X r) (hf : OpOk X.K cl r f) (ha : PE X a (tM X.K cl W ca)) (hb : PE X b (tM X.K cl W cb)) (hs : PlainIx b := by exact fun _ _ => rfl) :
    PE X (.Subscript a b pos) (tM X.K cl W (cBin f ca cb)) := PE.imp (pe_ix ho ha hb hs) fun _ _ _ h => tOp_ok hf h
theorem pm_un {a : Expr} {op : UnaryOp} {r : V → Hp → VK → Prop} {f : A → Store → Res} {ca : CE} {pos : Pos} (ho : UnR X (unaryOp op) r) (hf : UnOk X.K cl r f) (ha : PE X a (tM X.K cl W ca)) :
    PE X (.UnaryOp op a pos) (tM X.K cl W (cUn f ca)) := PE.imp (pe_un ho ha) fun σ H Q h => by
  obtain ⟨B, m, S, ρ, o, e, fin⟩ := h
  exact ⟨B, m, S, ρ, o, e, Fin.bind fin fun x S1 v H1 m1 s1 o1 r1 f1 => hf o1 r1 f1⟩
theorem pm_nil : PA X [] (tML X.K cl W cNil) := PA.imp pa_nil fun σ H Q h => by
  obtain ⟨B, m, S, ρ, o, e, fin⟩ := h
  exact fin [] H m Step.refl o .nil
theorem pm_cons {a : Expr} {es : List Expr} {c : CE} {r : CA} (ha : PE X a (tM X.K cl W c)) (hr : PA X es (tML X.K cl W r)) (hs : starEach (a :: es) X.env = (false, eval a X.env) :: starEach es X.env := by rfl) : PA X (a :: es) (tML X.K cl W (cCons c r)) :=
  PA.imp (pa_cons ha hr hs) fun σ H Q h => by
  obtain ⟨B, m, S, ρ, o, e, fin⟩ := h
  refine ⟨B, m, S, ρ, o, e, ?_⟩
  unfold cCons at fin
  cases h1 : c ρ S with
  | bad => rw [h1] at fin; exact fin
  | exc x S1 => rw [h1] at fin; exact fin
  | ok x S1 =>
    rw [h1] at fin
    intro v H1 m1 s1 o1 r1
    refine ⟨B, m1, S1, ρ, o1, s1.env o e, ?_⟩
    dsimp only at fin
    cases h2 : r ρ S1 with
    | bad => rw [h2] at fin; exact fin
    | exc y S2 => rw [h2] at fin; exact fun c d H' m' s' => fin c d H' m' (s1.trans s')
    | ok xs S2 =>
      rw [h2] at fin
      intro vs H2 m2 s2 o2 r2
      exact fin (v :: vs) H2 m2 (s1.trans s2) o2 (.cons (s2.rep o1 r1) r2)
theorem pm_tup {es : List Expr} {c : CA} {x1} {pos : Pos} (h : PA X es (tML X.K cl W c)) : PE X (.Tuple es x1 pos) (tM X.K cl W (cTup c)) := PE.imp (pe_tupZ h) fun σ H Q h => by
  obtain ⟨B, m, S, ρ, o, e, fin⟩ := h
  refine ⟨B, m, S, ρ, o, e, FinL.bind fin fun xs S1 vs H1 m1 s1 o1 r1 f1 => ?_⟩
  split at f1
  · rename_i ds hd
    split at f1
    · rename_i hz
      have q := valsOf_ok r1 hd
      exact ⟨by rw [q.length]; exact szOk_line hz, mkT_ok o1 q f1⟩
    · exact f1.elim
  · exact f1.elim
theorem pm_lst (fr : Bool) {es : List Expr} {c : CA} {pos : Pos} (h : PA X es (tML X.K cl W c)) : PE X (.List es pos) (tM X.K cl W (cLst fr c)) := PE.imp (pe_lst h) fun σ H Q h => by
  obtain ⟨B, m, S, ρ, o, e, fin⟩ := h
  refine ⟨B, m, S, ρ, o, e, FinL.bind fin fun xs S1 vs H1 m1 s1 o1 r1 f1 => ?_⟩
  split at f1
  · rename_i ds hd
    split at f1
    · rename_i hz
      have q := valsOf_ok r1 hd
      exact ⟨by rw [q.length]; exact szOk_line hz, fun p hp => mkL_ok o1 q hp f1⟩
    · exact f1.elim
  · exact f1.elim
theorem FinT.of {B : Addr → Prop} {σ : L2.St} {H : Hp} {m : List Addr} {r : Res} {Q : Bool → Hp → Prop} (h : FinT X.K cl B σ H m W r Q) : Fin X.K cl B σ H m W r fun x H1 => ∃ c, x = .bl c ∧ Q c H1 := by
  cases r with
  | bad => exact h
  | exc e S => exact h
  | ok x S =>
    intro v H1 m1 s1 o1 r1
    cases x with
    | ref i => exact h.elim
    | val d =>
      cases d with
      | bl b => cases r1; exact ⟨b, rfl, h H1 m1 s1 o1⟩
      | _ => exact h.elim
theorem pt_cmpM {a b : Expr} {op : CmpOp} {r : R2} {f : A → A → Store → Res} {ca cb : CE} {pos : Pos} (ho : OpR X (compareOp op) r) (hf : OpOk X.K cl r f) (ha : PE X a (tM X.K cl W ca)) (hb : PE X b (tM X.K cl W cb))
    (hm : behindInMarks op b = false := by first | exact nobehind _ (by decide) (by decide) | rfl) : PT X (.Compare a [op] [b] pos) (tMT X.K cl W (cBin f ca cb)) := PT.imp (pt_cmpR ho ha hb hm) fun σ H Q h => by
  obtain ⟨B, m, S, ρ, o, e, fin⟩ := h
  exact tOp_ok hf ⟨B, m, S, ρ, o, e, FinT.of fin⟩
theorem FinT.step {B : Addr → Prop} {σ : L2.St} {H H1 : Hp} {m m1 : List Addr} {r : Res} {Q : Bool → Hp → Prop} (s : Step H m H1 m1) (h : FinT X.K cl B σ H m W r Q) : FinT X.K cl B σ H1 m1 W r Q := by
  cases r with
  | bad => exact h
  | exc e S => exact fun c d H' m' s' => h c d H' m' (s.trans s')
  | ok x S =>
    cases x with
    | ref i => exact h.elim
    | val d =>
      cases d with
      | bl b => exact fun H' m' s' => h H' m' (s.trans s')
      | _ => exact h.elim
theorem FinT.bind {B : Addr → Prop} {σ : L2.St} {H : Hp} {m : List Addr} {r : Res} {f g : Store → Res} {Q R : Bool → Hp → Prop}
    (h : FinT X.K cl B σ H m W (r.bind fun x S1 => match x with
      | .val (.bl true) => f S1
      | .val (.bl false) => g S1
      | _ => .bad) Q)
    (k : ∀ S' H' m', Step H m H' m' → Ok X.K cl B H' m' S' → (FinT X.K cl B σ H' m' W (f S') Q → R true H') ∧ (FinT X.K cl B σ H' m' W (g S') Q → R false H')) : FinT X.K cl B σ H m W r R := by
  cases r with
  | bad => exact h
  | exc e S => exact h
  | ok x S =>
    cases x with
    | ref i => exact h
    | val d =>
      cases d with
      | bl b =>
        cases b with
        | true => exact fun H' m' s' o' => (k S H' m' s' o').1 (h.step s')
        | false => exact fun H' m' s' o' => (k S H' m' s' o').2 (h.step s')
      | _ => exact h
theorem FinT.bindE {B : Addr → Prop} {σ : L2.St} {H : Hp} {m : List Addr} {r : Res} {f g : Store → Res} {Q : VK} {R : Bool → Hp → Prop}
    (h : Fin X.K cl B σ H m W (r.bind fun x S1 => match x with
      | .val (.bl true) => f S1
      | .val (.bl false) => g S1
      | _ => .bad) Q)
    (k : ∀ S' H' m', Step H m H' m' → Ok X.K cl B H' m' S' → (Fin X.K cl B σ H' m' W (f S') Q → R true H') ∧ (Fin X.K cl B σ H' m' W (g S') Q → R false H')) : FinT X.K cl B σ H m W r R := by
  cases r with
  | bad => exact h
  | exc e S => exact h
  | ok x S =>
    cases x with
    | ref i => exact h
    | val d =>
      cases d with
      | bl b =>
        cases b with
        | true => exact fun H' m' s' o' => (k S H' m' s' o').1 (Fin.step s' h)
        | false => exact fun H' m' s' o' => (k S H' m' s' o').2 (Fin.step s' h)
      | _ => exact h
theorem FinT.here {B : Addr → Prop} {σ : L2.St} {H : Hp} {m : List Addr} {S : Store} {b : Bool} {Q : Bool → Hp → Prop} (h : FinT X.K cl B σ H m W (.ok (.val (.bl b)) S) Q) (o : Ok X.K cl B H m S) : Q b H := h H m Step.refl o
variable {a b : Expr} {rest : List Expr} {ca cb : CE} {pos : Pos}
theorem pw_and1M (ha : PT X a (tMT X.K cl W ca)) : PW X (.BoolOp .And [a] pos) (tMT X.K cl W ca) := pw_and1 ha
theorem pw_or1M (ha : PT X a (tMT X.K cl W ca)) : PW X (.BoolOp .Or [a] pos) (tMT X.K cl W ca) := pw_or1 ha
theorem PW.imp {e : Expr} {t u : TT} (h : PW X e t) (k : ∀ σ H Q, u σ H Q → t σ H Q) : PW X e u := ⟨fun wh pins s σ H Q I q => h.run wh pins s σ H Q I (k _ _ _ q)⟩
theorem pw_andM (ha : PT X a (tMT X.K cl W ca)) (hb : PW X (.BoolOp .And (b :: rest) pos) (tMT X.K cl W cb)) : PW X (.BoolOp .And (a :: b :: rest) pos) (tMT X.K cl W (cAnd ca cb)) :=
  PW.imp (pw_and ha hb) fun σ H Q h => by
  obtain ⟨B, m, S, ρ, o, e, fin⟩ := h
  refine ⟨B, m, S, ρ, o, e, FinT.bind (f := cb ρ) (g := cB false ρ) fin fun S1 H1 m1 s1 o1 => ⟨fun q => ?_, fun q => ?_⟩⟩
  · exact iteT ⟨B, m1, S1, ρ, o1, s1.env o e, q⟩
  · exact iteF (q.here o1)
theorem pw_orM (ha : PT X a (tMT X.K cl W ca)) (hb : PW X (.BoolOp .Or (b :: rest) pos) (tMT X.K cl W cb)) : PW X (.BoolOp .Or (a :: b :: rest) pos) (tMT X.K cl W (cOr ca cb)) :=
  PW.imp (pw_or ha hb) fun σ H Q h => by
  obtain ⟨B, m, S, ρ, o, e, fin⟩ := h
  refine ⟨B, m, S, ρ, o, e, FinT.bind (f := cB true ρ) (g := cb ρ) fin fun S1 H1 m1 s1 o1 => ⟨fun q => ?_, fun q => ?_⟩⟩
  · exact iteT (q.here o1)
  · exact iteF ⟨B, m1, S1, ρ, o1, s1.env o e, q⟩
theorem pt_notM (ha : PT X a (tMT X.K cl W ca)) : PT X (.UnaryOp .Not a pos) (tMT X.K cl W (cNot ca)) :=
  PT.imp (pt_not ha) fun σ H Q h => by
  obtain ⟨B, m, S, ρ, o, e, fin⟩ := h
  refine ⟨B, m, S, ρ, o, e, FinT.bind (f := cB false ρ) (g := cB true ρ) fin fun S1 H1 m1 s1 o1 => ⟨fun q => ?_, fun q => ?_⟩⟩
  · exact q.here o1
  · exact q.here o1
/-- by truth -/
theorem tru_val {B : Addr → Prop} {H : Hp} {m : List Addr} {S : Store} {v : V} {x : A} {k : Bool} (o : Ok X.K cl B H m S) (r : RepA X.K cl (NN B m) H m v x) (h : tru S x = some k) : TruV X.K v H k := by
  have hL : ∀ ds, asL S x = some ds → k = !ds.isEmpty → TruV X.K v H k := fun ds h1 h2 => by
    obtain ⟨a, vs, rfl, q, rl⟩ := asL_ok o r h1
    refine .inl ⟨vs, q, ?_⟩
    rw [h2]
    cases rl <;> rfl
  cases x with
  | ref i =>
    have h' : (match asL S (.ref i) with
      | some ds => some (!ds.isEmpty)
      | none => none) = some k := h
    split at h'
    · rename_i ds hd; cases h'; exact hL ds hd rfl
    · cases h'
  | val d =>
    cases d with
    | non => cases r; cases h; rfl
    | bl b => cases r; cases h; rfl
    | int i => cases r; cases h; rfl
    | str s =>
      cases r
      have h' : (if szOk s.length then some (s.length != 0) else none) = some k := h
      split at h' <;> cases h'
      rename_i hz
      refine ⟨szOk_line hz, ?_⟩
      rw [Bool.eq_iff_iff, bne_iff_ne, bne_iff_ne]
      omega
    | tup ds =>
      cases r with
      | tup q rl =>
        cases h
        refine .inr (.inl ⟨_, q.seq, ?_⟩)
        cases rl <;> rfl
    | lst ds =>
      have h' : some (!ds.isEmpty) = some k := h
      exact hL ds rfl (by cases h'; rfl)
    | ro ds =>
      have h' : some (!ds.isEmpty) = some k := h
      exact hL ds rfl (by cases h'; rfl)
    | dic ks ds => cases h
    | ins c ns ds => cases h
    | wt ds => cases h
theorem pt_truM (h : PE X a (tM X.K cl W ca)) (he : ∀ whole, isTrue a X.env whole = (do let v ← whole; standAt a.pos; holding [v] (truthy v)) := by intro _; rfl) : PT X a (tMT X.K cl W (cTru ca)) :=
  PT.imp (pt_truth h he) fun σ H Q h => by
  obtain ⟨B, m, S, ρ, o, e, fin⟩ := h
  refine ⟨B, m, S, ρ, o, e, ?_⟩
  unfold cTru at fin
  cases h1 : ca ρ S with
  | bad => rw [h1] at fin; exact fin
  | exc x S1 => rw [h1] at fin; exact fin
  | ok x S1 =>
    rw [h1] at fin
    intro v H1 m1 s1 o1 r1
    have fin : FinT X.K cl B σ H m W (match tru S1 x with
      | some b => .ok (.val (.bl b)) S1
      | none => .bad) Q := fin
    split at fin
    · rename_i k hk
      exact ⟨k, tru_val o1 r1 hk, fin H1 m1 s1 o1⟩
    · exact fin.elim
theorem pm_if {c : Expr} {ct : CE} (hc : PT X c (tMT X.K cl W ct)) (ha : PE X a (tM X.K cl W ca)) (hb : PE X b (tM X.K cl W cb)) : PE X (.IfExp c a b pos) (tM X.K cl W (cIf ct ca cb)) :=
  PE.imp (pe_ifExp hc ha hb) fun σ H Q h => by
  obtain ⟨B, m, S, ρ, o, e, fin⟩ := h
  refine ⟨B, m, S, ρ, o, e, FinT.bindE (f := ca ρ) (g := cb ρ) fin fun S1 H1 m1 s1 o1 => ⟨fun q => ?_, fun q => ?_⟩⟩
  · exact iteT ⟨B, m1, S1, ρ, o1, s1.env o e, q⟩
  · exact iteF ⟨B, m1, S1, ρ, o1, s1.env o e, q⟩
/-- and, or, not as values: of bools -/
theorem Fin.boolOp {B : Addr → Prop} {σ : L2.St} {H : Hp} {m : List Addr} {r : Res} {f g : Store → Res} {Q : VK} {R : Bool → Hp → Prop}
    (h : Fin X.K cl B σ H m W (r.bind fun x S1 => match x with
      | .val (.bl true) => f S1
      | .val (.bl false) => g S1
      | _ => .bad) Q)
    (k : ∀ S' H' m', Step H m H' m' → Ok X.K cl B H' m' S' → (Fin X.K cl B σ H' m' W (f S') Q → R true H') ∧ (Fin X.K cl B σ H' m' W (g S') Q → R false H')) : Fin X.K cl B σ H m W r fun x H1 => ∃ c, x = .bl c ∧ R c H1 := by
  have := FinT.bindE h k
  exact this.of
theorem pm_and (ha : PE X a (tM X.K cl W ca)) (hb : PE X (.BoolOp .And (b :: rest) pos) (tM X.K cl W cb)) : PE X (.BoolOp .And (a :: b :: rest) pos) (tM X.K cl W (cAnd ca cb)) :=
  PE.imp (pe_and ha hb) fun σ H Q h => by
  obtain ⟨B, m, S, ρ, o, e, fin⟩ := h
  refine ⟨B, m, S, ρ, o, e, ?_⟩
  refine Fin.boolOp (f := cb ρ) (g := cB false ρ) fin fun S1 H1 m1 s1 o1 => ⟨fun q => ?_, fun q => ?_⟩
  · exact iteT ⟨B, m1, S1, ρ, o1, s1.env o e, q⟩
  · exact iteF (q.here o1 (.bl false))
theorem pm_one {op} (ha : PE X a (tM X.K cl W ca)) : PE X (.BoolOp op [a] pos) (tM X.K cl W ca) := pe_one ha
theorem pm_not (ha : PE X a (tM X.K cl W ca)) : PE X (.UnaryOp .Not a pos) (tM X.K cl W (cNot ca)) :=
  PE.imp (pe_not ha) fun σ H Q h => by
  obtain ⟨B, m, S, ρ, o, e, fin⟩ := h
  refine ⟨B, m, S, ρ, o, e, ?_⟩
  refine Fin.boolOp (f := cB false ρ) (g := cB true ρ) fin fun S1 H1 m1 s1 o1 => ⟨fun q => ?_, fun q => ?_⟩
  · exact q.here o1 (.bl false)
  · exact q.here o1 (.bl true)
end
end T3
namespace T3
open PySem PySem.Spec PyProof.Rows L2
mutual
noncomputable def toP : D → PyData
  | .non => .none
  | .bl b => .bool b
  | .int i => .int i
  | .str s => .str s
  | .tup xs => .tuple (toPL xs)
  | .lst xs => .list (toPL xs)
  | .ro xs => .list (toPL xs)
  | .wt _ => .none
  | .dic _ _ => .none
  | .ins _ _ _ => .none
noncomputable def toPL : List D → List PyData
  | [] => []
  | x :: r => toP x :: toPL r
end
mutual
/-- data of nones, bools, ints, texts, lists, tuples -/
noncomputable def dOk : D → Bool
  | .str s => PySem.PyData.strOk s
  | .tup xs => dOkL xs
  | .lst xs => dOkL xs
  | .ro xs => dOkL xs
  | .dic _ _ => false
  | .ins _ _ _ => false
  | .wt _ => false
  | _ => true
noncomputable def dOkL : List D → Bool
  | [] => true
  | x :: r => dOk x && dOkL r
end
mutual
noncomputable def dDep : D → Nat
  | .tup xs => dDepL xs + 1
  | .lst xs => dDepL xs + 1
  | .ro xs => dDepL xs + 1
  | _ => 0
noncomputable def dDepL : List D → Nat
  | [] => 0
  | x :: r => max (dDep x) (dDepL r)
end
mutual
noncomputable def dEq : D → D → Bool
  | .non, .non => true
  | .bl a, .bl b => a == b
  | .bl a, .int j => (if a then 1 else 0) == j
  | .int i, .bl b => i == (if b then 1 else 0)
  | .int i, .int j => i == j
  | .str x, .str y => x == y
  | .tup xs, .tup ys => dEqL xs ys
  | .lst xs, .lst ys => dEqL xs ys
  | .lst xs, .ro ys => dEqL xs ys
  | .ro xs, .lst ys => dEqL xs ys
  | .ro xs, .ro ys => dEqL xs ys
  | _, _ => false
noncomputable def dEqL : List D → List D → Bool
  | [], [] => true
  | x :: xs, y :: ys => dEq x y && dEqL xs ys
  | _, _ => false
end
mutual
theorem dEq_toP : ∀ {d e : D}, dOk d = true → dOk e = true → PyData.eqv (toP d) (toP e) = dEq d e
  | .non, e, _, he => by cases e <;> first | rfl | cases he
  | .bl b, e, _, he => by cases e <;> first | rfl | cases he
  | .int b, e, _, he => by cases e <;> first | rfl | cases he
  | .str b, e, _, he => by cases e <;> first | rfl | cases he
  | .tup xs, e, hd, he => by cases e <;> first | rfl | cases he | exact dEqL_toP hd he
  | .lst xs, e, hd, he => by cases e <;> first | rfl | cases he | exact dEqL_toP hd he
  | .ro xs, e, hd, he => by cases e <;> first | rfl | cases he | exact dEqL_toP hd he
  | .wt _, _, hd, _ => by cases hd
  | .dic _ _, _, hd, _ => by cases hd
  | .ins _ _ _, _, hd, _ => by cases hd
theorem dEqL_toP : ∀ {ds es : List D}, dOkL ds = true → dOkL es = true → PyData.eqvAll (toPL ds) (toPL es) = dEqL ds es
  | [], [], _, _ => rfl
  | [], _ :: _, _, _ => rfl
  | _ :: _, [], _, _ => rfl
  | d :: ds, e :: es, hd, he => by
    simp only [dOkL, Bool.and_eq_true] at hd he
    show (PyData.eqv (toP d) (toP e) && PyData.eqvAll (toPL ds) (toPL es)) = (dEq d e && dEqL ds es)
    rw [dEq_toP hd.1 he.1, dEqL_toP hd.2 he.2]
end
mutual
theorem canLay_toP : ∀ {d : D}, dOk d = true → PyData.canLay0 (toP d) = true
  | .non, _ => rfl
  | .bl b, _ => rfl
  | .int b, _ => rfl
  | .str b, h => h
  | .tup xs, h => canLayL_toP (ds := xs) h
  | .lst xs, h => canLayL_toP (ds := xs) h
  | .ro xs, h => canLayL_toP (ds := xs) h
  | .wt _, h => by cases h
  | .dic _ _, h => by cases h
  | .ins _ _ _, h => by cases h
theorem canLayL_toP : ∀ {ds : List D}, dOkL ds = true → PyData.canLayAll0 (toPL ds) = true
  | [], _ => rfl
  | d :: ds, h => by
    simp only [dOkL, Bool.and_eq_true] at h
    show (PyData.canLay0 (toP d) && PyData.canLayAll0 (toPL ds)) = true
    rw [canLay_toP h.1, canLayL_toP h.2]
    rfl
end
mutual
theorem depth_toP : ∀ {d : D}, dOk d = true → PyData.depth (toP d) = dDep d
  | .non, _ => rfl
  | .bl b, _ => rfl
  | .int b, _ => rfl
  | .str b, h => rfl
  | .tup xs, h => congrArg (· + 1) (depthL_toP (ds := xs) h)
  | .lst xs, h => congrArg (· + 1) (depthL_toP (ds := xs) h)
  | .ro xs, h => congrArg (· + 1) (depthL_toP (ds := xs) h)
  | .wt _, h => by cases h
  | .dic _ _, h => by cases h
  | .ins _ _ _, h => by cases h
theorem depthL_toP : ∀ {ds : List D}, dOkL ds = true → PyData.depthAll (toPL ds) = dDepL ds
  | [], _ => rfl
  | d :: ds, h => by
    simp only [dOkL, Bool.and_eq_true] at h
    show max (PyData.depth (toP d)) (PyData.depthAll (toPL ds)) = max (dDep d) (dDepL ds)
    rw [depth_toP h.1, depthL_toP h.2]
end
noncomputable def shp (d : D) : Bool := dOk d && decide (dDep d ≤ 60)
theorem shp_shaped {d : D} (h : shp d = true) : SeqAt.shaped (toP d) = true := by
  simp only [shp, Bool.and_eq_true, decide_eq_true_eq] at h
  simp only [SeqAt.shaped, Bool.and_eq_true, decide_eq_true_eq]
  exact ⟨canLay_toP h.1, by rw [depth_toP h.1]; omega⟩
theorem shp_ok {d : D} (h : shp d = true) : dOk d = true := by
  simp only [shp, Bool.and_eq_true] at h
  exact h.1
/-- a value as it stands -/
noncomputable def cur (S : Store) : A → Option D
  | .val d => some d
  | .ref i => match S[i]? with
    | some (.lst ds) => some (.lst ds)
    | some (.dic ks ds) => some (.dic ks ds)
    | _ => none
section
variable {K : PySem.W.Frag} {cl : ClT} {N : Addr → Prop} {B : Addr → Prop} {H : Hp} {m : List Addr} {S : Store}
abbrev N0 : Addr → Prop := fun _ => False
theorem cur_ok (o : Ok K cl B H m S) {v : V} {x : A} {d : D} (r : RepA K cl (NN B m) H m v x) (h : cur S x = some d) : Rep K cl N0 H v d := by
  cases x with
  | val e => cases h; exact Rep.weak (fun _ z => z.elim) r
  | ref i =>
    obtain ⟨a, ha, rfl⟩ := r
    simp only [cur] at h
    split at h <;> cases h
    · rename_i hs
      obtain ⟨xs, e, q⟩ := o.obj i a _ ha hs
      exact .lst e (fun z => z) (q.weak fun _ z => z.elim)
    · rename_i hs
      obtain ⟨xs, e, l, q⟩ := o.obj i a _ ha hs
      exact .dic e (fun z => z) l (q.weak fun _ z => z.elim)
mutual
theorem Dp.of : ∀ {v : V} {d : D}, Rep K cl N H v d → dOk d = true → Dp K H v (toP d)
  | _, _, .non, _ => .non
  | _, _, .bl b, _ => .bl b
  | _, _, .int b, _ => .int b
  | _, _, .str b, _ => .str b
  | _, _, .tup t r, h => .tup t.seq (DpAll.of r h)
  | _, _, .lst e n r, h => .lst (.of e) (DpAll.of r h)
  | _, _, .ro e r, h => .lst e.seq (DpAll.of r h)
  | _, _, .dic _ _ _ _, h => by cases h
  | _, _, .ins _ _, h => by cases h
  | _, _, .wt _ _ _, h => by cases h
theorem DpAll.of : ∀ {vs : List V} {ds : List D}, RepL K cl N H vs ds → dOkL ds = true → DpAll K H vs (toPL ds)
  | _, _, .nil, _ => .nil
  | _, _, .cons (d := d) (ds := ds) t r, h => by
    have h' : dOk d = true ∧ dOkL ds = true := by simpa only [dOkL, Bool.and_eq_true] using h
    exact .cons (Dp.of t h'.1) (DpAll.of r h'.2)
end
end
noncomputable def fEq0 (x y : A) (S : Store) : Res := match cur S x, cur S y with
  | some d, some e => if shp d && shp e then .ok (.val (.bl (dEq d e))) S else .bad
  | _, _ => .bad
noncomputable def fEq (x y : A) (S : Store) : Res := match x, y with
  | .val (.str a), .val (.str b) => .ok (.val (.bl (a == b))) S
  | x, y => fEq0 x y S
noncomputable def fNe0 (x y : A) (S : Store) : Res := match cur S x, cur S y with
  | some d, some e => if shp d && shp e then .ok (.val (.bl (!dEq d e))) S else .bad
  | _, _ => .bad
noncomputable def fNe (x y : A) (S : Store) : Res := match x, y with
  | .val (.str a), .val (.str b) => .ok (.val (.bl (!(a == b)))) S
  | x, y => fNe0 x y S
/-- two ints -/
noncomputable def fI2 (c : Int → Int → Bool) (g : Int → Int → D) (x y : A) (S : Store) : Res := match x, y with
  | .val (.int i), .val (.int j) => if c i j then .ok (.val (g i j)) S else .bad
  | _, _ => .bad
abbrev yes2 : Int → Int → Bool := fun _ _ => true
abbrev fSub := fI2 yes2 fun i j => .int (i - j)
abbrev fMod := fI2 (fun _ j => decide (0 < j)) fun i j => .int (i % j)
abbrev fFdv := fI2 (fun _ j => decide (0 < j) && decide (j < 1073741824)) fun i j => .int (i / j)
abbrev fPow := fI2 (fun i j => decide (0 ≤ j) && decide (j ≤ 1000000) && decide (i.natAbs < 2 ^ 64)) fun i j => .int (i ^ j.toNat)
abbrev fLt := fI2 yes2 fun i j => .bl (decide (i < j))
abbrev fLe := fI2 yes2 fun i j => .bl (decide (i ≤ j))
abbrev fGt := fI2 yes2 fun i j => .bl (decide (j < i))
abbrev fGe := fI2 yes2 fun i j => .bl (decide (j ≤ i))
noncomputable def fAdd (fr : Bool) (x y : A) (S : Store) : Res := match x, y with
  | .val (.int i), .val (.int j) => .ok (.val (.int (i + j))) S
  | .val (.str a), .val (.str b) => if szOk (a.length + b.length) then .ok (.val (.str (a ++ b))) S else .bad
  | .val (.tup a), .val (.tup b) => if szOk (a.length + b.length) then .ok (.val (.tup (a ++ b))) S else .bad
  | x, y => match asM S x, asM S y with
    | some a, some b => if szOk (a.length + b.length) then mkL fr (a ++ b) S else .bad
    | _, _ => .bad
noncomputable def mulOk (i j : Int) : Bool := (decide (-18446744073709551616 < i) && decide (i < 18446744073709551616)) || (decide (-18446744073709551616 < j) && decide (j < 18446744073709551616))
noncomputable def fMul (fr : Bool) (x y : A) (S : Store) : Res := match x, y with
  | .val (.int i), .val (.int j) => if mulOk i j then .ok (.val (.int (i * j))) S else .bad
  | .val (.tup a), .val (.int k) => if decide (k = 1) then .ok (.val (.tup a)) S else if !a.isEmpty && decide (2 ≤ k) && decide (k ≤ 1000) && decide (a.length ≤ 1000) then .ok (.val (.tup (List.replicate k.toNat a).flatten)) S else .bad
  | x, .val (.int k) => match asM S x with
    | some a => if decide (-1000000 ≤ k) && decide (k ≤ 1000000) && szOk (a.length * k.toNat) then mkL fr (List.replicate k.toNat a).flatten S else .bad
    | none => .bad
  | _, _ => .bad
section
variable {X : Cx} {cl : ClT}
theorem ok_eq0 : OpOk X.K cl (rEqD X.K) fEq0 := by
  intro B H m S σ W v w x y Q o rx ry h
  unfold fEq0 at h
  split at h
  · rename_i d e hd he
    split at h
    · rename_i hs
      simp only [Bool.and_eq_true] at hs
      have rd := cur_ok o rx hd
      have re := cur_ok o ry he
      refine ⟨_, _, Dp.of rd (shp_ok hs.1), Dp.of re (shp_ok hs.2), shp_shaped hs.1, shp_shaped hs.2, ?_⟩
      rw [dEq_toP (shp_ok hs.1) (shp_ok hs.2)]
      exact h.here o (.bl _)
    · exact h.elim
  · exact h.elim
theorem ok_ne0 : OpOk X.K cl (rNeD X.K) fNe0 := by
  intro B H m S σ W v w x y Q o rx ry h
  unfold fNe0 at h
  split at h
  · rename_i d e hd he
    split at h
    · rename_i hs
      simp only [Bool.and_eq_true] at hs
      have rd := cur_ok o rx hd
      have re := cur_ok o ry he
      refine ⟨_, _, Dp.of rd (shp_ok hs.1), Dp.of re (shp_ok hs.2), shp_shaped hs.1, shp_shaped hs.2, ?_⟩
      rw [dEq_toP (shp_ok hs.1) (shp_ok hs.2)]
      exact h.here o (.bl _)
    · exact h.elim
  · exact h.elim
noncomputable def rEqM (K : PySem.W.Frag) : R2 := fun x y H Q => rEqD K x y H Q ∨ rEq x y H Q
noncomputable def rNeM (K : PySem.W.Frag) : R2 := fun x y H Q => rNeD K x y H Q ∨ rNe x y H Q
theorem op_eqM (hu : X.A.units + 64 < cLine) : OpR X (compareOp .Eq) (rEqM X.K) := OpR.or (op_eqD hu) op_eq
theorem op_neM (hu : X.A.units + 64 < cLine) : OpR X (compareOp .NotEq) (rNeM X.K) := OpR.or (op_neD hu) op_ne
theorem dec_str {a b : Str} : decide (V.str a = V.str b) = (a == b) := by
  rw [Bool.eq_iff_iff]
  simp
theorem ok_eq : OpOk X.K cl (rEqM X.K) fEq := by
  intro B H m S σ W v w x y Q o rx ry h
  unfold fEq at h
  split at h
  · cases rx; cases ry
    refine .inr ⟨rfl, ?_⟩
    rw [dec_str]
    exact h.here o (.bl _)
  · exact .inl (ok_eq0 o rx ry h)
theorem ok_ne : OpOk X.K cl (rNeM X.K) fNe := by
  intro B H m S σ W v w x y Q o rx ry h
  unfold fNe at h
  split at h
  · cases rx; cases ry
    refine .inr ⟨rfl, ?_⟩
    rw [dec_str]
    exact h.here o (.bl _)
  · exact .inl (ok_ne0 o rx ry h)
theorem ok_i2 {K : PySem.W.Frag} {C : Int → Int → Prop} {c : Int → Int → Bool} {g : Int → Int → D} {gV : Int → Int → V} (hc : ∀ i j, c i j = true → C i j) (hg : ∀ i j N H, Rep K cl N H (gV i j) (g i j)) : OpOk K cl (rI C gV) (fI2 c g) := by
  intro B H m S σ W v w x y Q o rx ry h
  unfold fI2 at h
  split at h
  · rename_i i j
    cases rx
    cases ry
    split at h
    · rename_i hz
      exact ⟨i, j, rfl, rfl, hc i j hz, h.here o (x := .val _) (hg i j _ _)⟩
    · exact h.elim
  · exact h.elim
theorem ok_i20 {K : PySem.W.Frag} {g : Int → Int → D} {gV : Int → Int → V} (hg : ∀ i j N H, Rep K cl N H (gV i j) (g i j)) : OpOk K cl (rI0 gV) (fI2 yes2 g) := by
  intro B H m S σ W v w x y Q o rx ry h
  unfold fI2 at h
  split at h
  · rename_i i j
    cases rx
    cases ry
    exact ⟨i, j, rfl, rfl, Fin.here h o (x := .val _) (hg i j _ _)⟩
  · exact h.elim
end
end T3
namespace T3
open PySem PySem.Spec PyProof.Rows L2
section
variable {X : Cx} {cl : ClT} {W : WX}
noncomputable def rAdd (K : PySem.W.Frag) : R2 := fun x y H Q => (rI0 (fun i j => .int (i + j)) x y H Q ∨ (∃ i j, x = .str i ∧ y = .str j ∧ i.length + j.length ≤ sizeLine ∧ Q (.str (i ++ j)) H)) ∨ (rCatZ K x y H Q ∨ rCat x y H Q)
theorem op_addM : OpR X (binaryOp .Add) (rAdd X.K) := OpR.or (OpR.or op_add op_add_str) (OpR.or op_catZ op_cat)
theorem ok_add (fr : Bool) : OpOk X.K cl (rAdd X.K) (fAdd fr) := by
  intro B H m S σ W v w x y Q o rx ry h
  have hL : (∃ a b, asM S x = some a ∧ asM S y = some b ∧ szOk (a.length + b.length) = true ∧ Fin X.K cl B σ H m W (mkL fr (a ++ b) S) Q) → rAdd X.K v w H Q := by
    rintro ⟨a, b, ha, hb, hz, q⟩
    obtain ⟨p, xs, rfl, e1, r1⟩ := asM_ok o rx ha
    obtain ⟨p2, ys, rfl, e2, r2⟩ := asM_ok o ry hb
    refine .inr (.inr ⟨p, p2, xs, ys, rfl, rfl, e1, e2, by rw [r1.length, r2.length]; exact szOk_line hz, fun z hz => mkL_ok o (r1.append r2) hz q⟩)
  unfold fAdd at h
  split at h
  · rename_i i j
    cases rx; cases ry
    exact .inl (.inl ⟨i, j, rfl, rfl, h.here o (.int _)⟩)
  · rename_i i j
    cases rx; cases ry
    split at h
    · rename_i hz
      exact .inl (.inr ⟨i, j, rfl, rfl, szOk_line hz, h.here o (.str _)⟩)
    · exact h.elim
  · rename_i a b
    obtain ⟨p, xs, rfl, e1, r1⟩ := asT_ok (x := .val (.tup a)) rx rfl
    obtain ⟨p2, ys, rfl, e2, r2⟩ := asT_ok (x := .val (.tup b)) ry rfl
    split at h
    · rename_i hz
      refine .inr (.inl ⟨p, p2, xs, ys, rfl, rfl, e1, e2, by rw [r1.length, r2.length]; exact szOk_line hz, fun e => ?_, fun e1 e2 => ?_, fun _ _ => ?_⟩)
      · subst e; cases r1; exact h.here o ry
      · subst e2; cases r2; rw [List.append_nil] at h; exact h.here o rx
      · exact mkT_ok o (r1.append r2) h
    · exact h.elim
  · split at h
    · rename_i a b ha hb
      split at h
      · rename_i hz
        exact hL ⟨a, b, ha, hb, hz, h⟩
      · exact h.elim
    · exact h.elim
theorem repL_rep {K : PySem.W.Frag} {N : Addr → Prop} {H : Hp} {vs : List V} {ds : List D} (r : RepL K cl N H vs ds) : ∀ n : Nat, RepL K cl N H (List.replicate n vs).flatten (List.replicate n ds).flatten
  | 0 => .nil
  | n + 1 => by rw [List.replicate_succ, List.replicate_succ, List.flatten_cons, List.flatten_cons]; exact r.append (repL_rep r n)
/-- t * 1 is t -/
theorem tuple_mulOne (l : Addr) (items : Array Value) (n : Nat) (sl : Array (Option Value)) (dd : Option Addr) (u : Tok) :
    Meets (Builtin.«tuple.__mul__» ⟨[.ref l, .int 1 u], []⟩) (fun _ R s => s.heap.get? l = some { cls := .type "tuple", dict := dd, data := .seq items n, slots := sl } ∧ R (.ok (.ret (Value.ref l))) s) :=
  .of_wp fun prog w A R s h => by
    obtain ⟨hp, g, d, tk, os⟩ := s
    obtain ⟨hl, h⟩ := h
    have f1 := AutoSeq1.idx_int
    have c0 : (decide ((1 : Int) < -(2 ^ 63)) || decide ((1 : Int) ≥ 2 ^ 63)) = false := by decide
    have c1 : (items.isEmpty || (1 : Int) == 1) = true := by rw [Bool.or_eq_true]; exact .inr rfl
    wp_walk using wpAny_loadPart' hl
    repeat (first
      | (refine wpAny_ite_false (decide_eq_false (by rw [c0]; exact Bool.false_ne_true)) ?_; wp_walk using wpAny_loadPart' hl)
      | (refine wpAny_ite_true (decide_eq_true (by rw [c1])) ?_; wp_walk using wpAny_loadPart' hl))
    exact ⟨_, rfl, h⟩
noncomputable def rRepOne (K : PySem.W.Frag) : R2 := fun x y H Q => ∃ l xs, x = .ref l ∧ y = .int 1 ∧ SqT K H l xs ∧ Q (.ref l) H
theorem op_repOne : OpR X (binaryOp .Mult) (rRepOne X.K) := by
  intro pins s σ H x y v u Q I rx ry h
  obtain ⟨l, xs, rfl, rfl, hT, q⟩ := h
  cases rx
  obtain ⟨t, rfl⟩ := ry
  obtain ⟨its, r, ⟨⟨cls, dd, data, sl⟩, ho, hc, n, hd⟩, hs⟩ := I.tuple hT
  simp only at hc hd
  subst hc hd
  exact wpAny_binaryOp_repeat_ref (T := "tuple") (U := "int") (by decide) ⟨_, ho, rfl⟩ (fun s' => typeIs_int s' 1 t) noFill_tuple_mul F.fills_int_mul F.slot_int_rmul repeat_tuple F.slot_int_index.lookup
    (call_meets F.slot_int_rmul (typeIs_int s 1 t) F.entry_int_rmul (F.args_int_rmul_2 _ _) (int_rmul_tuple 1 t l its.toArray n dd sl)
      ⟨ho, rfl, ⟨_, ho, rfl⟩, call_meets F.slot_tuple_mul ⟨_, ho, rfl⟩ F.entry_tuple_mul (F.args_tuple_mul_2 _ _) (tuple_mulOne l its.toArray n sl dd t) ⟨ho, ⟨.ref l, H, I, rfl, q⟩⟩⟩)
noncomputable def rMulM (K : PySem.W.Frag) : R2 := fun x y H Q => rI CMul (fun i j => .int (i * j)) x y H Q ∨ (rRepZ K x y H Q ∨ (rRepOne K x y H Q ∨ rRep x y H Q))
theorem op_mulM : OpR X (binaryOp .Mult) (rMulM X.K) := OpR.or op_mul (OpR.or op_repZ (OpR.or op_repOne op_rep))
theorem mulOk_ok {i j : Int} (h : mulOk i j = true) : CMul i j := by
  simp only [mulOk, Bool.or_eq_true, Bool.and_eq_true, decide_eq_true_eq] at h
  rcases h with h | h
  · exact .inl h
  · exact .inr h
theorem ok_mul (fr : Bool) : OpOk X.K cl (rMulM X.K) (fMul fr) := by
  intro B H m S σ W v w x y Q o rx ry h
  unfold fMul at h
  split at h
  · rename_i i j
    cases rx; cases ry
    split at h
    · rename_i hz
      exact .inl ⟨i, j, rfl, rfl, mulOk_ok hz, h.here o (.int _)⟩
    · exact h.elim
  · rename_i a k
    cases ry
    obtain ⟨p, xs, rfl, e1, r1⟩ := asT_ok (x := .val (.tup a)) rx rfl
    split at h
    · rename_i hk
      have hk : k = 1 := of_decide_eq_true hk
      subst hk
      exact .inr (.inr (.inl ⟨p, xs, rfl, rfl, e1, h.here o rx⟩))
    split at h
    · rename_i hz
      simp only [Bool.and_eq_true, decide_eq_true_eq, Bool.not_eq_true', List.isEmpty_eq_false_iff] at hz
      obtain ⟨⟨⟨h1, h2⟩, h3⟩, h4⟩ := hz
      refine .inr (.inl ⟨p, k, xs, rfl, rfl, e1, fun e => ?_, h2, h3, by rw [r1.length]; exact h4, mkT_ok o (repL_rep r1 _) h⟩)
      subst e; cases r1; exact h1 rfl
    · exact h.elim
  · rename_i k _ _
    cases ry
    split at h
    · rename_i a ha
      split at h
      · rename_i hz
        simp only [Bool.and_eq_true, decide_eq_true_eq] at hz
        obtain ⟨⟨h1, h2⟩, h3⟩ := hz
        obtain ⟨p, xs, rfl, e1, r1⟩ := asM_ok o rx ha
        refine .inr (.inr (.inr ⟨p, k, xs, rfl, rfl, e1, by omega, by omega, by rw [r1.length]; exact szOk_line h3, fun z hz => mkL_ok o (repL_rep r1 _) hz h⟩))
      · exact h.elim
    · exact h.elim
  · exact h.elim
noncomputable def fIx (x y : A) (S : Store) : Res := match y with
  | .val (.int i) => (match x with
    | .val (.str s) => if szOk s.length then (match (ixN s.cps.toList.length i).bind fun j => s.cps.toList[j]? with
      | some c => .ok (.val (.str ⟨#[c]⟩)) S
      | none => .bad) else .bad
    | .val (.tup ds) => (match (ixN ds.length i).bind fun j => ds[j]? with
      | some d => .ok (.val d) S
      | none => .bad)
    | x => match asL S x with
      | some ds => (match (ixN ds.length i).bind fun j => ds[j]? with
        | some d => .ok (.val d) S
        | none => .bad)
      | none => .bad)
  | _ => .bad
theorem at_ok {K : PySem.W.Frag} {N : Addr → Prop} {H : Hp} {vs : List V} {ds : List D} {i : Int} {d : D} (r : RepL K cl N H vs ds) (h : ((ixN ds.length i).bind fun j => ds[j]?) = some d) : ∃ v, atI vs i = some v ∧ Rep K cl N H v d := by
  unfold atI
  rw [r.length]
  cases e : ixN ds.length i with
  | none => rw [e] at h; cases h
  | some j =>
    rw [e] at h
    obtain ⟨v, h1, h2⟩ := r.got (i := j) (d := d) h
    exact ⟨v, h1, h2⟩
theorem ok_ix : OpOk X.K cl (rIx X.K) fIx := by
  intro B H m S σ W v w x y Q o rx ry h
  have hL : ∀ (i : Int) ds d, w = .int i → asL S x = some ds → ((ixN ds.length i).bind fun j => ds[j]?) = some d → Fin X.K cl B σ H m W (.ok (.val d) S) Q → rIx X.K v w H Q := by
    rintro i ds d rfl h1 h2 q
    obtain ⟨p, xs, rfl, e1, r1⟩ := asL_ok o rx h1
    obtain ⟨u, a1, a2⟩ := at_ok r1 h2
    exact .inl ⟨p, xs, i, u, rfl, rfl, e1, a1, q.here o a2⟩
  unfold fIx at h
  split at h
  · rename_i i
    cases ry
    split at h
    · rename_i s
      cases rx
      split at h
      · rename_i hz
        split at h
        · rename_i c hc
          exact .inr (.inr ⟨s, i, c, rfl, rfl, szOk_line hz, hc, h.here o (.str _)⟩)
        · exact h.elim
      · exact h.elim
    · rename_i ds
      obtain ⟨p, xs, rfl, e1, r1⟩ := asT_ok (x := .val (.tup ds)) rx rfl
      split at h
      · rename_i d hd
        obtain ⟨u, a1, a2⟩ := at_ok r1 hd
        exact .inr (.inl ⟨p, xs, i, u, rfl, rfl, e1, a1, h.here o a2⟩)
      · exact h.elim
    · split at h
      · rename_i ds hds
        split at h
        · rename_i d hd
          exact hL i ds d rfl hds hd h
        · exact h.elim
      · exact h.elim
  · exact h.elim
noncomputable def cutD (ds : List D) (lo hi : Option Int) : List D := (ds.drop (HT.sIx ds.length 0 lo)).take (HT.sIx ds.length ds.length hi - HT.sIx ds.length 0 lo)
noncomputable def withO (c : Option CE) (ρ : Slots) (S : Store) (f : Option Int → Store → Res) : Res := match c with
  | none => f none S
  | some c => (c ρ S).bind fun x S1 => match x with
    | .val (.int i) => f (some i) S1
    | _ => .bad
noncomputable def slD (fr : Bool) (x : A) (l u : Option Int) (S : Store) : Res := match x with
  | .val (.str s) => if szOk s.length then .ok (.val (.str (cutS s l u))) S else .bad
  | .val (.tup ds) => .ok (.val (.tup (cutD ds l u))) S
  | x => match asL S x with
    | some ds => mkL fr (cutD ds l u) S
    | none => .bad
noncomputable def cSl (fr : Bool) (c : CE) (lo hi : Option CE) : CE := fun ρ S => (c ρ S).bind fun x S1 => withO lo ρ S1 fun l S2 => withO hi ρ S2 fun u S3 => slD fr x l u S3
noncomputable def tO (K : PySem.W.Frag) (cl : ClT) (W : WX) : Option CE → TO
  | none => tNoPart
  | some c => tPart (tM K cl W c)
theorem withO_ok {B : Addr → Prop} {σ : L2.St} {H : Hp} {m : List Addr} {ρ : Slots} {S : Store} {f : Option Int → Store → Res} {Q : VK} {R : Option Int → Hp → Prop} {c : Option CE} (o : Ok X.K cl B H m S) (e : EnvOk X.K cl (NN B m) H m σ ρ)
    (h : Fin X.K cl B σ H m W (withO c ρ S f) Q) (k : ∀ l S' H' m', Step H m H' m' → Ok X.K cl B H' m' S' → EnvOk X.K cl (NN B m') H' m' σ ρ → Fin X.K cl B σ H' m' W (f l S') Q → R l H') : tO X.K cl W c σ H R := by
  cases c with
  | none => exact k none S H m Step.refl o e h
  | some c =>
    refine ⟨B, m, S, ρ, o, e, Fin.bind h fun x S1 v H1 m1 s1 o1 r1 f1 => ?_⟩
    split at f1
    · rename_i i
      cases r1
      exact ⟨i, rfl, k (some i) S1 H1 m1 s1 o1 (s1.env o e) f1⟩
    · exact f1.elim
theorem po_n : PO X none (tO X.K cl W none) := po_none
theorem po_e {e : Expr} {c : CE} (h : PE X e (tM X.K cl W c)) : PO X (some e) (tO X.K cl W (some c)) := po_some h
noncomputable def rSlM (K : PySem.W.Frag) : V → Option Int → Option Int → Hp → VK → Prop := fun x l u H Q => rSlZ K x l u H Q ∨ (rSlL K x l u H Q ∨ rSlS x l u H Q)
theorem sl_M : SlR X (rSlM X.K) := SlR.or sl_tupZ (SlR.or sl_list sl_str)
theorem cut_ok {K : PySem.W.Frag} {N : Addr → Prop} {H : Hp} {vs : List V} {ds : List D} {l u : Option Int} (r : RepL K cl N H vs ds) : RepL K cl N H (cutV vs l u) (cutD ds l u) := by
  unfold cutV cutD
  rw [r.length]
  exact (r.drop _).take _
theorem cutD_all {ds : List D} {l u : Option Int} (h : HT.sIx ds.length 0 l = 0 ∧ HT.sIx ds.length ds.length u = ds.length) : cutD ds l u = ds := by
  unfold cutD
  rw [h.1, h.2, List.drop_zero, Nat.sub_zero, List.take_length]
theorem pm_slice (fr : Bool) {e : Expr} {lo hi : Option Expr} {c : CE} {cl1 ch : Option CE} {pos p2 : Pos} (he : PE X e (tM X.K cl W c)) (hl : PO X lo (tO X.K cl W cl1)) (hu : PO X hi (tO X.K cl W ch)) :
    PE X (.Subscript e (.Slice lo hi none p2) pos) (tM X.K cl W (cSl fr c cl1 ch)) := PE.imp (pe_slice sl_M he hl hu) fun σ H Q h => by
  obtain ⟨B, m, S, ρ, o, e, fin⟩ := h
  refine ⟨B, m, S, ρ, o, e, Fin.bind fin fun x S1 v H1 m1 s1 o1 r1 f1 => ?_⟩
  refine withO_ok o1 (s1.env o e) f1 fun l S2 H2 m2 s2 o2 e2 f2 => ?_
  refine withO_ok o2 e2 f2 fun u S3 H3 m3 s3 o3 e3 f3 => ?_
  have r3 := s3.rep o2 (s2.rep o1 r1)
  unfold slD at f3
  split at f3
  · rename_i s
    cases r3
    split at f3
    · rename_i hz
      exact .inr (.inr ⟨s, rfl, szOk_line hz, f3.here o3 (.str _)⟩)
    · exact f3.elim
  · rename_i ds
    obtain ⟨p, xs, rfl, e1, q1⟩ := asT_ok (x := .val (.tup ds)) r3 rfl
    refine .inl ⟨p, xs, rfl, e1, fun hw => ?_, fun hw => mkT_ok o3 (cut_ok q1) f3⟩
    rw [q1.length] at hw
    rw [cutD_all hw] at f3
    exact f3.here o3 r3
  · split at f3
    · rename_i ds hd
      obtain ⟨p, xs, rfl, e1, q1⟩ := asL_ok o3 r3 hd
      exact .inr (.inl ⟨p, xs, rfl, e1, fun p hp => mkL_ok o3 (cut_ok q1) hp f3⟩)
    · exact f3.elim
end
end T3
namespace T3
open PySem PySem.Spec PyProof.Rows L2
structure FnG (P : Program) (w : World) (K : PySem.W.Frag) (mg : Str → Option Value) (base : Heap) (k : Nat) (f : Addr) (fd : FuncData) (ps : List Str) (sp : Sp) : Prop where
  len : ∀ vs H Q E, sp vs H Q E → vs.length = ps.length
  run : ∀ {A : Around} {outer : List Env} {s : Shared} {H : Hp} {args : Args} {us : List Value} {vs : List V} {Q : VK} {E : XK}, A.guards = some [] → Room k A → Env0 P w K mg base A outer s H → BindsTo s fd args (ps.zip us) → Vals vs us →
    sp vs H Q E → codeAny (model P w) A (.call (.ref f) args) (CR (L2.CX P w) outer P w H s Q E) s
section
variable {P : Program} {w : World} {K : PySem.W.Frag} {mg : Str → Option Value} {base : Heap}
theorem FnG.up {j k : Nat} {f : Addr} {fd : FuncData} {ps : List Str} {sp : Sp} (F : FnG P w K mg base j f fd ps sp) (h : j ≤ k) : FnG P w K mg base k f fd ps sp :=
  ⟨F.len, fun g r => F.run g (r.mono h)⟩
theorem FnG.imp {k : Nat} {f : Addr} {fd : FuncData} {ps : List Str} {sp sp' : Sp} (F : FnG P w K mg base k f fd ps sp) (h : ∀ vs H Q E, sp' vs H Q E → sp vs H Q E) : FnG P w K mg base k f fd ps sp' :=
  ⟨fun _ _ _ _ q => F.len _ _ _ _ (h _ _ _ _ q), fun g r e b v q => F.run g r e b v (h _ _ _ _ q)⟩
theorem guards_deeper {A : Around} {env : Env} (h : A.guards = some []) : (A.deeper env).guards = some [] := by
  first | exact h | (simp only [Around.deeper]; exact h)
theorem binds_kind {N ps : List Str} {sc : Scope} (S : FnScope N ps sc) (n : Nat) (us : List Value) : ∀ y ∈ ps.zip us, sc.names.lookup y.1 = some .local ∨ (sc.names.lookup y.1 = some .cell ∧ ((cellsFrom n sc.names []).lookup y.1).isSome = true) := by
  rintro ⟨x, v⟩ hy
  cases S.par x (List.of_mem_zip hy).1 with
  | inl q => exact .inl q
  | inr q => exact .inr ⟨q, PySem.W.cellsFrom_some _ _ _ (.inl q)⟩
theorem fnG_of {x qual : Str} {st : Stmt} {f : Addr} {fd : FuncData} {N ps : List Str} {k : Nat} {sp : Sp} (F : Fun K x qual st f fd) (S : FnScope N ps (defScope st)) (len : ∀ vs H Q E, sp vs H Q E → vs.length = ps.length)
    (body : ∀ (cdv : Value) (A : Around) (outer : List Env) (s : Shared) (H : Hp) (vs : List V) (Q : VK) (E : XK),
      (A.deeper (envOfC qual (defScope st) s.heap.objs.size f cdv)).guards = some [] → Room k (A.deeper (envOfC qual (defScope st) s.heap.objs.size f cdv)) → sp vs H Q E →
      ∃ t, PSs (cxOf (L2.CX P w) P w K mg base N qual (defScope st) f cdv A outer s H E) (defBody st) t ∧ t { nx := fun _ H' => Q .non H', rt := Q } (start N vs) H) :
    FnG P w K mg base (k + 1) f fd ps sp := by
  obtain ⟨oc, od, kV, doc, pm, an, cdv, ct, osl, rfl, lk, hcd⟩ := F.ex
  constructor
  · exact len
  intro A outer s H args us vs Q E g room e0 hb rv hsp
  have lv := len _ _ _ _ hsp
  have old : ∀ b o, base.get? b = some o → s.heap.get? b = some o := fun b o q => (e0.bs b o q).1
  have kin := e0.mod.kin.keeps old
  refine codeAny_call_function room.depth (kin _ _ lk) rfl S.co S.gen rfl (PySem.W.codeRec_of kin hcd) (hb _ _ _ _ ?_)
  refine wpAny_newFunctionEnv_cells S.kind (binds_kind S _ us) fun env he s1 z => ?_
  cases he
  refine ⟨(e0.mod.nolimit.keeps old).keeps z.toInCall.keep, codeAny_func ?_⟩
  obtain ⟨t, ht, hq⟩ := body cdv A outer s H vs Q E (guards_deeper g) (room.deeper _) hsp
  refine wpAny_mono (ht.run [] s1 (start N vs) H _ (inv_start S room.hd e0 lv rv z) hq) (fun fl s2 q => ?_) fun _ _ q => q
  cases fl with
  | next => exact (let ⟨σ', H', J, q⟩ := q; ⟨V.non, H', J.os, J.bare, J.base, J.hok, rfl, q⟩)
  | ret u => exact (let ⟨v, σ', H', J, r, q⟩ := q; ⟨v, H', J.os, J.bare, J.base, J.hok, r, q⟩)
  | brk => exact (let ⟨_, _, _, q⟩ := q; q.elim)
  | cont => exact (let ⟨_, _, _, q⟩ := q; q.elim)
end
section
variable (K : PySem.W.Frag) (cl : ClT)
noncomputable def FinF (B : Addr → Prop) (H : Hp) (m : List Addr) (r : Res) (Q : VK) (E : XK) : Prop :=
  match r with
  | .ok x S' => ∀ v H' m', Step H m H' m' → Ok K cl B H' m' S' → RepA K cl (NN B m') H' m' v x → Q v H'
  | .exc e S' => ∀ c d H' m', Step H m H' m' → Ok K cl B H' m' S' → ExcAt K cl (NN B m') H' c d e → E c d H'
  | .bad => False
noncomputable def spF (n : Nat) (f : Fn) : Sp := fun vs H Q E => vs.length = n ∧ ∃ B m S xs, Ok K cl B H m S ∧ RepAs K cl (NN B m) H m vs xs ∧ FinF K cl B H m (f xs S) Q E
end
noncomputable def retF : SRes → Res
  | .nx _ S => .ok (.val .non) S
  | .rt x S => .ok x S
  | .exc e _ S => .exc e S
  | _ => .bad
/-- a body as a function: n slots -/
noncomputable def runF (n : Nat) (b : CS) : Fn := fun xs S => retF (b (xs.map some ++ List.replicate (n - xs.length) none) S)
section
variable {P : Program} {w : World} {K : PySem.W.Frag} {mg : Str → Option Value} {base : Heap} {cl : ClT}
theorem RepAs.length {N : Addr → Prop} {H : Hp} {m : List Addr} : ∀ {vs : List V} {xs : List A}, RepAs K cl N H m vs xs → vs.length = xs.length
  | _, _, .nil => rfl
  | _, _, .cons _ r => congrArg (· + 1) r.length
theorem RepAs.got {N : Addr → Prop} {H : Hp} {m : List Addr} : ∀ {vs : List V} {xs : List A} {i : Nat} {x : A}, RepAs K cl N H m vs xs → xs[i]? = some x → ∃ v, vs[i]? = some v ∧ RepA K cl N H m v x
  | _, _, 0, _, .cons h _, e => ⟨_, rfl, by cases e; exact h⟩
  | _, _, i + 1, _, .cons _ r, e => RepAs.got (i := i) r e
theorem env_start {B : Addr → Prop} {N : List Str} {H : Hp} {m : List Addr} {vs : List V} {xs : List A} (r : RepAs K cl (NN B m) H m vs xs) (hl : vs.length ≤ N.length) : EnvOk K cl (NN B m) H m (start N vs) (xs.map some ++ List.replicate (N.length - xs.length) none) := by
  have hx := r.length
  have hs : start N vs = vs.map some ++ List.replicate (N.length - vs.length) none := by
    first | rfl | (unfold start; rfl)
  refine ⟨by rw [hs]; simp [hx], fun i x h => ?_⟩
  have hi : i < xs.length := by
    by_cases hi : i < xs.length
    · exact hi
    · rw [List.getElem?_append_right (by simp; omega)] at h
      have := List.mem_of_getElem? h
      simp at this
  rw [List.getElem?_append_left (by simpa using hi), List.getElem?_map] at h
  cases e : xs[i]? with
  | none => rw [e] at h; cases h
  | some y =>
    rw [e] at h
    cases h
    obtain ⟨v, h1, h2⟩ := r.got e
    exact ⟨v, by rw [hs, List.getElem?_append_left (by simp; omega), List.getElem?_map, h1]; rfl, h2⟩
theorem fnM {x qual : Str} {st : Stmt} {f : Addr} {fd : FuncData} {N ps : List Str} {k : Nat} {b : CS} (F : Fun K x qual st f fd) (S : FnScope N ps (defScope st))
    (body : ∀ (cdv : Value) (A : Around) (outer : List Env) (s : Shared) (H : Hp) (E : XK),
      (A.deeper (envOfC qual (defScope st) s.heap.objs.size f cdv)).guards = some [] → Room k (A.deeper (envOfC qual (defScope st) s.heap.objs.size f cdv)) →
      Takes (cxOf (L2.CX P w) P w K mg base N qual (defScope st) f cdv A outer s H E) (fun c d _ H => E c d H) →
      PSs (cxOf (L2.CX P w) P w K mg base N qual (defScope st) f cdv A outer s H E) (defBody st) (tMS K cl (fun c d _ H => E c d H) b)) :
    FnG P w K mg base (k + 1) f fd ps (spF K cl ps.length (runF N.length b)) := by
  refine fnG_of F S (fun vs H Q E h => h.1) fun cdv A outer s H vs Q E g hr h => ?_
  obtain ⟨hl, B, m, S1, xs, o, r, fin⟩ := h
  have hpl : ps.length ≤ N.length := by have := congrArg List.length S.pre; rw [List.length_take] at this; omega
  refine ⟨_, body cdv A outer s H E g hr (takes_of rfl rfl rfl rfl), ⟨B, m, S1, _, o, env_start r (by omega), ?_⟩⟩
  unfold runF at fin
  have hx := r.length
  cases hb : b (xs.map some ++ List.replicate (N.length - xs.length) none) S1 with
  | bad => rw [hb] at fin; exact fin
  | bk _ _ => rw [hb] at fin; exact fin.elim
  | ct _ _ => rw [hb] at fin; exact fin.elim
  | nx ρ S' => rw [hb] at fin; exact fun σ H' m' s' o' e' => fin V.non H' m' s' o' .non
  | rt x S' => rw [hb] at fin; exact fun v H' m' s' o' r' => fin v H' m' s' o' r'
  | exc e ρ S' => rw [hb] at fin; exact fun c d σ H' m' s' o' e' x' => fin c d H' m' s' o' x'
end
end T3
namespace T3
open PySem PySem.Spec PyProof.Rows L2
noncomputable def refsOf : List A → List Nat
  | [] => []
  | .ref i :: r => i :: refsOf r
  | .val _ :: r => refsOf r
noncomputable def renum : Nat → List A → List A
  | _, [] => []
  | k, .ref _ :: r => .ref k :: renum (k + 1) r
  | k, .val d :: r => .val d :: renum k r
noncomputable def getAll (S : Store) : List Nat → Option Store
  | [] => some []
  | i :: r => match S[i]?, getAll S r with
    | some o, some t => some (o :: t)
    | _, _ => none
noncomputable def putAll : Store → List Nat → Store → Store
  | S, i :: r, o :: t => putAll (S.set i o) r t
  | S, _, _ => S
noncomputable def flatO : O → Bool
  | .ins _ _ zs => (valsOf zs).isSome
  | _ => true
noncomputable def frzO : O → Option D
  | .lst ds => some (.lst ds)
  | .dic ks ds => some (.dic ks ds)
  | .ins c ns zs => if c < 1000 then (valsOf zs).map fun ds => .ins c ns ds else none
noncomputable def back (adopt : Bool) (rs : List Nat) (S : Store) (r : Res) : Res := match r with
  | .ok x S1 => if (S1.take rs.length).all flatO && decide (rs.length ≤ S1.length) then (match x with
    | .val d => .ok (.val d) (putAll S rs S1)
    | .ref j => match rs[j]?, S1[j]? with
      | some i, _ => .ok (.ref i) (putAll S rs S1)
      | none, some o => if adopt then (if flatO o then .ok (.ref (putAll S rs S1).length) (putAll S rs S1 ++ [o]) else .bad) else (match frzO o with
        | some d => .ok (.val d) (putAll S rs S1)
        | none => .bad)
      | none, none => .bad) else .bad
  | .exc e S1 => if (S1.take rs.length).all flatO && decide (rs.length ≤ S1.length) then .exc e (putAll S rs S1) else .bad
  | .bad => .bad
noncomputable def callIn (adopt : Bool) (f : Fn) (xs : List A) (S : Store) : Res :=
  if (refsOf xs).Nodup then (match getAll S (refsOf xs) with
    | some S0 => if S0.all flatO then back adopt (refsOf xs) S (f (renum 0 xs) S0) else .bad
    | none => .bad) else .bad
theorem nodup_at {α : Type} {l : List α} (h : l.Nodup) {i j : Nat} {a : α} (hi : l[i]? = some a) (hj : l[j]? = some a) : i = j := by
  have hp := List.pairwise_iff_getElem.mp h
  obtain ⟨i1, i2⟩ := List.getElem?_eq_some_iff.mp hi
  obtain ⟨j1, j2⟩ := List.getElem?_eq_some_iff.mp hj
  rcases Nat.lt_trichotomy i j with q | q | q
  · exact absurd (i2.trans j2.symm) (hp i j i1 j1 q)
  · exact q
  · exact absurd (j2.trans i2.symm) (hp j i j1 i1 q)
theorem getAll_len {S : Store} : ∀ {rs : List Nat} {t : Store}, getAll S rs = some t → t.length = rs.length
  | [], t, h => by cases h; rfl
  | i :: r, t, h => by
    simp only [getAll] at h
    split at h <;> cases h
    rename_i e1 e2
    simp [getAll_len e2]
theorem getAll_get {S : Store} : ∀ {rs : List Nat} {t : Store}, getAll S rs = some t → ∀ (j : Nat) i, rs[j]? = some i → ∃ o, S[i]? = some o ∧ t[j]? = some o
  | i :: r, t, h, j, k, hj => by
    simp only [getAll] at h
    split at h <;> cases h
    rename_i o' t' e1 e2
    cases j with
    | zero => cases hj; exact ⟨o', e1, rfl⟩
    | succ j => exact getAll_get e2 j k hj
theorem putAll_len : ∀ {rs : List Nat} {S t : Store}, (putAll S rs t).length = S.length
  | [], S, t => by cases t <;> rfl
  | i :: r, S, [] => rfl
  | i :: r, S, o :: t => by show (putAll (S.set i o) r t).length = _; rw [putAll_len, List.length_set]
theorem putAll_out : ∀ {rs : List Nat} {S t : Store} {i : Nat}, i ∉ rs → (putAll S rs t)[i]? = S[i]?
  | [], S, t, i, _ => by cases t <;> rfl
  | k :: r, S, [], i, _ => rfl
  | k :: r, S, o :: t, i, h => by
    show (putAll (S.set k o) r t)[i]? = _
    have hk : k ≠ i := fun z => h (by rw [z]; exact List.mem_cons_self)
    rw [putAll_out fun z => h (List.mem_cons_of_mem _ z), List.getElem?_set_ne hk]
theorem putAll_in : ∀ {rs : List Nat} {S t : Store} {j i : Nat} {o : O}, rs.Nodup → rs[j]? = some i → t[j]? = some o → i < S.length → (putAll S rs t)[i]? = some o
  | k :: r, S, o' :: t, 0, i, o, hn, h1, h2, hl => by
    cases h1
    cases h2
    show (putAll (S.set k o') r t)[k]? = _
    rw [putAll_out (List.nodup_cons.mp hn).1, List.getElem?_set_self hl]
  | k :: r, S, o' :: t, j + 1, i, o, hn, h1, h2, hl => putAll_in (S := S.set k o') (List.nodup_cons.mp hn).2 h1 h2 (by rw [List.length_set]; exact hl)
  | [], _, _, _, _, _, _, h1, _, _ => by simp at h1
  | _ :: _, _, [], _, _, _, _, _, h2, _ => by simp at h2
section
variable {K : PySem.W.Frag} {cl : ClT} {B : Addr → Prop} {H H' : Hp} {m m' : List Addr} {S S1 : Store}
theorem RepAs.flat {N : Addr → Prop} : ∀ {vs : List V} {zs : List A}, RepAs K cl N H m vs zs → (valsOf zs).isSome = true → RepAs K cl N H m' vs zs
  | _, _, .nil, _ => .nil
  | _, _, .cons (x := .val d) h r, hz => .cons h (RepAs.flat r (by
      cases e : valsOf _ with
      | none => simp [valsOf, e] at hz
      | some _ => rfl))
  | _, _, .cons (x := .ref _) h r, hz => by cases hz
theorem RepAs.weak {N N' : Addr → Prop} (hw : ∀ a, N a → N' a) : ∀ {vs : List V} {zs : List A}, RepAs K cl N' H m vs zs → RepAs K cl N H m vs zs
  | _, _, .nil => .nil
  | _, _, .cons (x := .val d) h r => .cons (x := .val d) (Rep.weak hw h) (RepAs.weak hw r)
  | _, _, .cons (x := .ref _) h r => .cons (x := .ref _) h (RepAs.weak hw r)
/-- seen from another store -/
theorem RepO.seen {N N' : Addr → Prop} (hw : ∀ a, N a → N' a) {a : Addr} {o : O} (h : RepO K cl N' H m a o) (hf : flatO o = true) : RepO K cl N H m' a o := by
  cases o with
  | lst ds => obtain ⟨xs, e, r⟩ := h; exact ⟨xs, e, r.weak hw⟩
  | dic ks ds => obtain ⟨xs, e, l, r⟩ := h; exact ⟨xs, e, l, r.weak hw⟩
  | ins c ns zs => obtain ⟨dx, xs, e, l, r⟩ := h; exact ⟨dx, xs, e, l, (r.weak hw).flat hf⟩
/-- the addresses of what is handed over -/
noncomputable def addrs (m : List Addr) (rs : List Nat) : List Addr := rs.map fun i => m.getD i 0
theorem addrs_get {rs : List Nat} {j i : Nat} {a : Addr} (h : rs[j]? = some i) (e : m[i]? = some a) : (addrs m rs)[j]? = some a := by
  unfold addrs
  rw [List.getElem?_map, h]
  simp [List.getD, e]
theorem refs_lt {N : Addr → Prop} : ∀ {vs : List V} {xs : List A}, RepAs K cl N H m vs xs → ∀ i ∈ refsOf xs, i < m.length
  | _, _, .nil, i, h => by cases h
  | _, _, .cons (x := .val d) _ r, i, h => refs_lt r i h
  | _, _, .cons (x := .ref j) ⟨a, e, _⟩ r, i, h => by
    rcases List.mem_cons.mp h with h | h
    · rw [h]; exact (List.getElem?_eq_some_iff.mp e).1
    · exact refs_lt r i h
theorem renum_ok {N : Addr → Prop} {all : List Nat} : ∀ {vs : List V} {xs : List A} (k : Nat), RepAs K cl N H m vs xs → (∀ j i, (refsOf xs)[j]? = some i → all[k + j]? = some i) → RepAs K cl N H (addrs m all) vs (renum k xs)
  | _, _, _, .nil, _ => .nil
  | _, _, k, .cons (x := .val d) h r, ha => .cons h (renum_ok k r ha)
  | _, _, k, .cons (x := .ref i) ⟨a, e, ev⟩ r, ha => .cons ⟨a, addrs_get (ha 0 i rfl) e, ev⟩ (renum_ok (k + 1) r fun j i hj => by
      have := ha (j + 1) i hj
      rwa [show k + (j + 1) = k + 1 + j by omega] at this)
/-- the callee's state -/
theorem Ok.sub (o : Ok K cl B H m S) {rs : List Nat} {S0 : Store} (hn : rs.Nodup) (hl : ∀ i ∈ rs, i < m.length) (hg : getAll S rs = some S0) (hf : S0.all flatO = true) : Ok K cl (fun a => NN B m a ∧ a ∉ addrs m rs) H (addrs m rs) S0 := by
  have hm : ∀ a ∈ addrs m rs, a ∈ m := fun a ha => by
    obtain ⟨i, hi, rfl⟩ := List.mem_map.mp ha
    have := hl i hi
    simp [List.getD, List.getElem?_eq_getElem this]
  refine ⟨fun a ha => ⟨o.may ha.1, ha.2⟩, ?_, ?_, fun j a u hj hu => ?_, o.tabs⟩
  · rw [getAll_len hg]; simp [addrs]
  · unfold addrs
    rw [List.Nodup, List.pairwise_map]
    refine List.Pairwise.imp_of_mem (fun {i j} hi hj hij e => ?_) hn
    have h1 := hl i hi
    have h2 := hl j hj
    simp only [List.getD, List.getElem?_eq_getElem h1, List.getElem?_eq_getElem h2, Option.getD_some] at e
    exact hij (nodup_at o.nd (List.getElem?_eq_getElem h1) (by rw [e]; exact List.getElem?_eq_getElem h2))
  · have hjl : j < rs.length := by rw [← getAll_len hg]; exact (List.getElem?_eq_some_iff.mp hu).1
    obtain ⟨v, e1, e2⟩ := getAll_get hg j rs[j] (List.getElem?_eq_getElem hjl)
    rw [hu] at e2; cases e2
    obtain ⟨b, eb, rb⟩ := o.at e1
    have e3 := addrs_get (List.getElem?_eq_getElem hjl) eb
    rw [hj] at e3; cases e3
    refine rb.seen (fun c hc => ?_) (List.all_eq_true.mp hf u (List.mem_of_getElem? hu))
    rcases hc with hc | hc
    · exact hc.1
    · exact .inr (hm c hc)
/-- back in the caller's state -/
theorem Ok.back (o : Ok K cl B H m S) {rs : List Nat} (hn : rs.Nodup) (hl : ∀ i ∈ rs, i < m.length) (s : Step H (addrs m rs) H' m') (o1 : Ok K cl (fun a => NN B m a ∧ a ∉ addrs m rs) H' m' S1) (hf : (S1.take rs.length).all flatO = true) (hz : rs.length ≤ S1.length) :
    Step H m H' m ∧ Ok K cl B H' m (putAll S rs S1) ∧ (∀ a, NN B m a → NN (fun a => NN B m a ∧ a ∉ addrs m rs) m' a) := by
  obtain ⟨r, rfl, hr⟩ := s.ext
  have hm : ∀ a ∈ addrs m rs, a ∈ m := fun a ha => by
    obtain ⟨i, hi, rfl⟩ := List.mem_map.mp ha
    have := hl i hi
    simp [List.getD, List.getElem?_eq_getElem this]
  have hw : ∀ a, NN B m a → NN (fun a => NN B m a ∧ a ∉ addrs m rs) (addrs m rs ++ r) a := fun a ha => by
    by_cases q : a ∈ addrs m rs
    · exact .inr (List.mem_append_left _ q)
    · exact .inl ⟨ha, q⟩
  have st : Step H m H' m := ⟨⟨[], by simp, by simp⟩, fun a u e hn nt => s.keep a u e (fun z => hn (hm a z)) nt, fun a e => s.some e⟩
  refine ⟨st, ⟨fun a ha => ⟨s.some (o.foreign a ha).1, (o.foreign a ha).2⟩, by rw [putAll_len]; exact o.len, o.nd, fun i a u hi hu => ?_, o1.tabs⟩, hw⟩
  by_cases q : i ∈ rs
  · obtain ⟨j, hj, e⟩ := List.getElem_of_mem q
    have hj' : rs[j]? = some i := by rw [List.getElem?_eq_getElem hj, e]
    have hjs : j < S1.length := Nat.lt_of_lt_of_le hj hz
    have e1 := putAll_in (S := S) hn hj' (List.getElem?_eq_getElem hjs) (by rw [← o.len]; exact hl i q)
    rw [hu] at e1
    cases e1
    have ea := addrs_get hj' hi
    have lj : j < (addrs m rs).length := (List.getElem?_eq_some_iff.mp ea).1
    have ro := o1.obj j a _ (by rw [List.getElem?_append_left lj]; exact ea) (List.getElem?_eq_getElem hjs)
    refine ro.seen hw (List.all_eq_true.mp hf _ ?_)
    rw [List.mem_take_iff_getElem]
    exact ⟨j, by omega, rfl⟩
  · rw [putAll_out q] at hu
    have ro := o.obj i a u hi hu
    have na : a ∉ addrs m rs := fun z => by
      obtain ⟨k, hk, e⟩ := List.mem_map.mp z
      have h2 := hl k hk
      simp only [List.getD, List.getElem?_eq_getElem h2, Option.getD_some] at e
      exact q ((nodup_at o.nd hi (by rw [← e]; exact List.getElem?_eq_getElem h2)) ▸ hk)
    have kp : Kp (NN B m) (NN B m) H H' := st.kp fun a h => (o.foreign a h).2
    have e1 : H' a = H a := by
      cases e : H a with
      | none => exact absurd e ro.there
      | some v => exact s.keep a v e na (RepO.nt ro e).1
    exact ro.mono kp ⟨[], by simp⟩ e1
/-- what is handed over stands as it did -/
theorem frz_ok {N N' : Addr → Prop} (hw : ∀ a, N a → N' a) {a : Addr} {o : O} {d : D} (h : RepO K cl N' H m a o) (n : ¬ N a) (hf : frzO o = some d) : Rep K cl N H (.ref a) d := by
  cases o with
  | lst ds => cases hf; obtain ⟨xs, e, r⟩ := h; exact .lst e n (r.weak hw)
  | dic ks ds => cases hf; obtain ⟨xs, e, l, r⟩ := h; exact .dic e n l (r.weak hw)
  | ins c ns zs =>
    have hf : (if c < 1000 then (valsOf zs).map fun ds => D.ins c ns ds else none) = some d := hf
    by_cases hc : c < 1000
    case neg => rw [if_neg hc] at hf; cases hf
    rw [if_pos hc] at hf
    simp only [Option.map_eq_some_iff] at hf
    obtain ⟨ds, hd, rfl⟩ := hf
    obtain ⟨dx, xs, e, l, r⟩ := h
    exact .ins (.inl ⟨hc, dx, e, n, l⟩) (valsOf_ok (r.weak hw) hd)
theorem ExcAt.weak {N N' : Addr → Prop} (hw : ∀ a, N a → N' a) {c : Value} {d : Option Addr} {e : X0} (h : ExcAt K cl N' H c d e) : ExcAt K cl N H c d e := by
  obtain ⟨h1, h2⟩ := h
  refine ⟨h1, ?_⟩
  rcases h2 with h2 | ⟨da, xs, e1, e2, n, l, r⟩
  · exact .inl h2
  · exact .inr ⟨da, xs, e1, e2, fun z => n (hw _ z), l, r.weak hw⟩
/-- THE CALL -/
theorem callIn_ok {n : Nat} {f : Fn} {adopt : Bool} {xs : List A} {vs : List V} {σ : L2.St} {W : WX} {Q : VK} (o : Ok K cl B H m S) (r : RepAs K cl (NN B m) H m vs xs) (hn : vs.length = n) (h : Fin K cl B σ H m W (callIn adopt f xs S) Q) : spF K cl n f vs H Q (WE W σ) := by
  unfold callIn at h
  split at h
  · rename_i hnd
    split at h
    · rename_i S0 hg
      split at h
      · rename_i hf
        have hl := refs_lt r
        have o0 := o.sub hnd hl hg hf
        have hm : ∀ a ∈ addrs m (refsOf xs), a ∈ m := fun a ha => by
          obtain ⟨i, hi, rfl⟩ := List.mem_map.mp ha
          have := hl i hi
          simp [List.getD, List.getElem?_eq_getElem this]
        have r0 : RepAs K cl (NN (fun a => NN B m a ∧ a ∉ addrs m (refsOf xs)) (addrs m (refsOf xs))) H (addrs m (refsOf xs)) vs (renum 0 xs) := by
          refine RepAs.weak (N' := NN B m) (fun a ha => ?_) (renum_ok 0 r fun j i hj => by rw [Nat.zero_add]; exact hj)
          rcases ha with ha | ha
          · exact ha.1
          · exact .inr (hm a ha)
        refine ⟨hn, _, _, S0, _, o0, r0, ?_⟩
        cases hr : f (renum 0 xs) S0 with
        | bad => rw [hr] at h; exact h
        | exc e S1 =>
          rw [hr] at h
          intro c d H' m' s' o' x'
          unfold back at h
          dsimp only at h
          split at h
          · rename_i hc
            simp only [Bool.and_eq_true, decide_eq_true_eq] at hc
            obtain ⟨st, ok, hw⟩ := o.back hnd hl s' o' hc.1 hc.2
            exact h c d H' m st ok (x'.weak hw)
          · exact h.elim
        | ok x S1 =>
          rw [hr] at h
          intro v H' m' s' o' x'
          unfold back at h
          dsimp only at h
          split at h
          · rename_i hc
            simp only [Bool.and_eq_true, decide_eq_true_eq] at hc
            obtain ⟨st, ok, hw⟩ := o.back hnd hl s' o' hc.1 hc.2
            have len' : (putAll S (refsOf xs) S1).length = m.length := by rw [putAll_len]; exact o.len.symm
            cases x with
            | val d => exact h v H' m st ok (Rep.weak hw x')
            | ref j =>
              obtain ⟨a, ea, rfl⟩ := x'
              obtain ⟨q, rfl, hq⟩ := s'.ext
              dsimp only at h
              split at h
              · rename_i i hi
                refine h (.ref a) H' m st ok ⟨m.getD i 0, ?_, ?_⟩
                · have := hl i (List.mem_of_getElem? hi)
                  simp [List.getD, List.getElem?_eq_getElem this]
                · have e2 := addrs_get hi (List.getElem?_eq_getElem (hl i (List.mem_of_getElem? hi)))
                  rw [List.getElem?_append_left (List.getElem?_eq_some_iff.mp e2).1, e2] at ea
                  cases ea
                  have := hl i (List.mem_of_getElem? hi)
                  simp [List.getD, List.getElem?_eq_getElem this]
              · rename_i u hj hu
                have hj' : (addrs m (refsOf xs)).length ≤ j := by
                  have := List.getElem?_eq_none_iff.mp hj
                  simpa [addrs] using this
                have aq : a ∈ q := by
                  rw [List.getElem?_append_right hj'] at ea
                  exact List.mem_of_getElem? ea
                have ro := o'.obj j a u ea hu
                have ha0 : H a = none := hq a aq
                have hnm : a ∉ m := fun z => o.may (.inr z) ha0
                split at h
                · split at h
                  · rename_i hfl
                    -- it becomes the caller's own
                    refine h (.ref a) H' (m ++ [a]) ⟨⟨[a], rfl, fun b hb => by rw [List.mem_singleton.mp hb]; exact ha0⟩, st.keep, st.stay⟩ ?_ ⟨a, by rw [len', List.getElem?_append_right (Nat.le_refl _)]; simp, rfl⟩
                    have hw2 : ∀ b, NN B (m ++ [a]) b → NN (fun a => NN B m a ∧ a ∉ addrs m (refsOf xs)) (addrs m (refsOf xs) ++ q) b := fun b hb => by
                      rcases hb with hb | hb
                      · exact hw b (.inl hb)
                      · rcases List.mem_append.mp hb with hb | hb
                        · exact hw b (.inr hb)
                        · rw [List.mem_singleton.mp hb]; exact .inr (List.mem_append_right _ aq)
                    refine ⟨fun b hb => ⟨(ok.foreign b hb).1, fun z => ?_⟩, by simp [len'], ?_, fun i b w hi hw' => ?_, ok.tabs⟩
                    · rcases List.mem_append.mp z with z | z
                      · exact (o.foreign b hb).2 z
                      · rw [List.mem_singleton.mp z] at hb; exact (o.foreign a hb).1 ha0
                    · rw [List.nodup_append]
                      exact ⟨o.nd, by simp, fun b hb c hc => by rw [List.mem_singleton.mp hc]; exact fun e => hnm (e ▸ hb)⟩
                    · by_cases hlt : i < m.length
                      · rw [List.getElem?_append_left hlt] at hi
                        rw [List.getElem?_append_left (by rw [len']; exact hlt)] at hw'
                        by_cases hin : i ∈ refsOf xs
                        · obtain ⟨k, hk, ek⟩ := List.getElem_of_mem hin
                          have hk' : (refsOf xs)[k]? = some i := by rw [List.getElem?_eq_getElem hk, ek]
                          have hks : k < S1.length := Nat.lt_of_lt_of_le hk hc.2
                          have e1 := putAll_in (S := S) hnd hk' (List.getElem?_eq_getElem hks) (by rw [← o.len]; exact hl i hin)
                          rw [hw'] at e1
                          cases e1
                          have eb := addrs_get hk' hi
                          have ro2 := o'.obj k b _ (by rw [List.getElem?_append_left (List.getElem?_eq_some_iff.mp eb).1]; exact eb) (List.getElem?_eq_getElem hks)
                          refine ro2.seen hw2 (List.all_eq_true.mp hc.1 _ ?_)
                          rw [List.mem_take_iff_getElem]
                          exact ⟨k, by omega, rfl⟩
                        · rw [putAll_out hin] at hw'
                          have ro2 := o.obj i b w hi hw'
                          have kp : Kp (NN B m) (NN B (m ++ [a])) H H' := ⟨fun c z hz hn nt => st.keep c z hz (fun y => hn (.inr y)) nt, fun c z => by
                            rcases z with z | z
                            · exact .inl (.inl z)
                            · rcases List.mem_append.mp z with z | z
                              · exact .inl (.inr z)
                              · rw [List.mem_singleton.mp z]; exact .inr ha0⟩
                          refine ro2.mono kp ⟨[a], rfl⟩ ?_
                          cases e : H b with
                          | none => exact absurd e ro2.there
                          | some v =>
                            refine s'.keep b v e (fun z => ?_) (RepO.nt ro2 e).1
                            obtain ⟨k, hk, e⟩ := List.mem_map.mp z
                            have h2 := hl k hk
                            simp only [List.getD, List.getElem?_eq_getElem h2, Option.getD_some] at e
                            exact hin ((nodup_at o.nd hi (by rw [← e]; exact List.getElem?_eq_getElem h2)) ▸ hk)
                      · have hi' := (List.getElem?_eq_some_iff.mp hi).1
                        have e : i = m.length := by simp at hi'; omega
                        subst e
                        rw [List.getElem?_append_right (Nat.le_refl _)] at hi
                        rw [← len', List.getElem?_append_right (Nat.le_refl _)] at hw'
                        simp at hi hw'
                        subst hi hw'
                        exact ro.seen hw2 hfl
                  · exact h.elim
                · split at h
                  · rename_i d hd
                    exact h (.ref a) H' m st ok (frz_ok hw ro (o.fresh ha0) hd)
                  · exact h.elim
              · exact h.elim
          · exact h.elim
      · exact h.elim
    · exact h.elim
  · exact h.elim
end
end T3
namespace T3
open PySem PySem.Spec PyProof.Rows L2
section
variable {X : Cx} {cl : ClT} {W : WX}
theorem run_fnG {pins : List (Addr × Obj)} {σ : L2.St} {H : Hp} {s : Shared} {Q : VK} {k : Nat} {f : Addr} {fd : FuncData} {ps : List Str} {sp : Sp} {args : Args} {us : List Value} {vs : List V} (F : FnG X.prog X.w X.K X.mg X.base k f fd ps sp) (hr : Room k X.A)
    (g : X.A.guards = some []) (tk : Takes X W) (I : Inv X pins σ H s) (hb : BindsTo s fd args (ps.zip us)) (r : Vals vs us) (h : sp vs H Q (WE W σ)) : wpAny (model X.prog X.w) X.A (call (.ref f) args.pos args.kw) (EP X pins σ Q) X.xe s := by
  refine wpAny_call (codeAny_mono (F.run g hr I.env0 hb r h) fun res s' q => ?_)
  cases res with
  | error e => exact passAt tk σ pins H s e s' I q
  | ok fl =>
    cases fl with
    | ret u => exact I.after q
    | next | brk | cont => exact q.elim
/-- a def that may be called: its level, its name, how many arguments, what it is -/
structure CalG (P : Program) (w : World) (K : PySem.W.Frag) (mg : Str → Option Value) (base : Heap) (cl : ClT) (j : Nat) (nm : Str) (n : Nat) (f : Fn) : Prop where
  ex : ∃ (fa : Addr) (fd : FuncData) (ps : List Str), mg nm = some (.ref fa) ∧ PySem.W.keepIn K (.ref fa) = true ∧ Binds K fd ps [] ∧ ps.length = n ∧ FnG P w K mg base j fa fd ps (spF K cl n f)
noncomputable def cCall (n : Nat) (adopt : Bool) (f : Fn) (c : CA) : CE := fun ρ S => (c ρ S).bind fun xs S1 => if xs.length = n then callIn adopt f xs S1 else .bad
theorem call_ok {n : Nat} {adopt : Bool} {f : Fn} {c : CA} {σ : L2.St} {H : Hp} {Q : VK} (h : tM X.K cl W (cCall n adopt f c) σ H Q) : tML X.K cl W c σ H fun vs H1 => spF X.K cl n f vs H1 Q (WE W σ) := by
  obtain ⟨B, m, S, ρ, o, e, fin⟩ := h
  refine ⟨B, m, S, ρ, o, e, FinL.bind fin fun xs S1 vs H1 m1 s1 o1 r1 f1 => ?_⟩
  split at f1
  · rename_i hl
    exact callIn_ok o1 r1 (r1.length.trans hl) f1
  · exact f1.elim
theorem pm_call (adopt : Bool) {nm : Str} {n j k : Nat} {f : Fn} {e : Expr} {es : List Expr} {c : CA} {p pos : Pos} (C : CalG X.prog X.w X.K X.mg X.base cl j nm n f) (hr : Room k X.A) (g : X.A.guards = some []) (tk : Takes X W) (hg : Gl X nm)
    (ha : PA X (e :: es) (tML X.K cl W c)) (hk : j ≤ k := by decide) (hdb : (nm == ("__debug__" : Str)) = false := by decide) (he : starEach (e :: es) X.env = (false, eval e X.env) :: starEach es X.env := by rfl)
    (hpl : (backTo pos (starEach es X.env)).any (·.1) = false := by rfl) :
    PE X (.Call (.Name nm p) (e :: es) [] pos) (tM X.K cl W (cCall n adopt f c)) := by
  obtain ⟨fa, fd, ps, hm, hkp, hb, hps, F⟩ := C.ex
  refine ⟨fun pins s σ H Q I h => ?_⟩
  refine wpAny_Call_Name_kw (ld_glob I hg hm ?_ hdb)
  refine PySem.W.callWith_K (h₀ := X.base) I.ok.mod.kin hkp (thn (ha.run pos pins s σ H _ I (call_ok h)) fun us s1 ⟨vs, H1, I1, r, q⟩ => ⟨I1.kIn, ?_⟩) he hpl
  have hl : us.length = ps.length := by rw [← r.length, q.1, hps]
  have b := hb s1 us I1.kIn (by rw [List.append_nil]; exact hl)
  rw [List.append_nil] at b
  exact run_fnG (F.up hk) hr g tk I1 b r q
noncomputable def cCall0 (adopt : Bool) (f : Fn) : CE := fun _ S => callIn adopt f [] S
noncomputable def pick (xs : List A) : List Nat → Option (List A)
  | [] => some []
  | i :: r => match xs[i]?, pick xs r with
    | some x, some t => some (x :: t)
    | _, _ => none
noncomputable def cCallK (n q : Nat) (adopt : Bool) (perm : List Nat) (f : Fn) (c : CA) : CE := fun ρ S => (c ρ S).bind fun xs S1 => if xs.length = q then (match pick xs perm with
  | some ys => if ys.length = n then callIn adopt f ys S1 else .bad
  | none => .bad) else .bad
theorem PK.imp {kws : List Keyword} {t u : TA} (h : PK X kws t) (k : ∀ σ H Q, u σ H Q → t σ H Q) : PK X kws u := ⟨fun pos pins s σ H Q I q => h.run pos pins s σ H Q I (k _ _ _ q)⟩
end
end T3
namespace T3
open PySem PySem.Spec PyProof.Rows L2
abbrev CT := A → Slots → Store → Option (Slots × Store)
noncomputable def TgOk (K : PySem.W.Frag) (cl : ClT) (g : TG) (t : CT) : Prop :=
  ∀ {B : Addr → Prop} {H : Hp} {m : List Addr} {S S' : Store} {v : V} {x : A} {σ : L2.St} {ρ ρ' : Slots} {Q : L2.St → Hp → Prop}, Ok K cl B H m S → EnvOk K cl (NN B m) H m σ ρ → RepA K cl (NN B m) H m v x → t x ρ S = some (ρ', S') →
    (∀ σ' H' m', Step H m H' m' → Ok K cl B H' m' S' → EnvOk K cl (NN B m') H' m' σ' ρ' → Q σ' H') → g v σ H Q
noncomputable def tgName (i : Nat) : CT := fun x ρ S => some (ρ.set i (some x), S)
noncomputable def tgNil : List D → Slots → Store → Option (Slots × Store) := fun ds ρ S => if ds.isEmpty then some (ρ, S) else none
noncomputable def tgCons (t : CT) (u : List D → Slots → Store → Option (Slots × Store)) : List D → Slots → Store → Option (Slots × Store) := fun ds ρ S => match ds with
  | d :: r => (match t (.val d) ρ S with
    | some (ρ', S') => u r ρ' S'
    | none => none)
  | [] => none
noncomputable def tgTup (n : Nat) (u : List D → Slots → Store → Option (Slots × Store)) : CT := fun x ρ S => match x with
  | .val (.tup ds) => if ds.length = n then u ds ρ S else none
  | .val (.wt ds) => if ds.length = n then u ds ρ S else none
  | _ => none
/-- a tuple or a list taken apart -/
noncomputable def tgSeq (n : Nat) (u : List D → Slots → Store → Option (Slots × Store)) : CT := fun x ρ S => match asL S x with
  | some ds => if ds.length = n then u ds ρ S else none
  | none => none
/-- a[i] = .. of a list of the store: the place's parts change nothing -/
noncomputable def tgSub (co ci : CE) : CT := fun x ρ S => match co ρ S, x with
  | .ok (.ref j) S1, .val d => (match ci ρ S1 with
    | .ok (.val (.int k)) S2 => (match S2[j]? with
      | some (.lst ds) => (match ixN ds.length k with
        | some q => some (ρ, S2.set j (.lst (ds.set q d)))
        | none => none)
      | _ => none)
    | _ => none)
  | _, _ => none
section
variable {X : Cx} {cl : ClT} {W : WX}
theorem tg_name (i : Nat) : TgOk X.K cl (gName i) (tgName i) := by
  intro B H m S S' v x σ ρ ρ' Q o e r h k
  cases h
  exact k _ H m Step.refl o (e.set i r)
noncomputable def TgsOk (K : PySem.W.Frag) (cl : ClT) (g : TGs) (t : List D → Slots → Store → Option (Slots × Store)) : Prop :=
  ∀ {B : Addr → Prop} {H : Hp} {m : List Addr} {S S' : Store} {vs : List V} {ds : List D} {σ : L2.St} {ρ ρ' : Slots} {Q : L2.St → Hp → Prop}, Ok K cl B H m S → EnvOk K cl (NN B m) H m σ ρ → RepL K cl (NN B m) H vs ds → t ds ρ S = some (ρ', S') →
    (∀ σ' H' m', Step H m H' m' → Ok K cl B H' m' S' → EnvOk K cl (NN B m') H' m' σ' ρ' → Q σ' H') → g vs σ H Q
theorem tgs_nil : TgsOk X.K cl gNil tgNil := by
  intro B H m S S' vs ds σ ρ ρ' Q o e r h k
  unfold tgNil at h
  split at h <;> cases h
  rename_i hd
  have : ds = [] := List.isEmpty_iff.mp hd
  subst this
  cases r
  exact ⟨rfl, k _ H m Step.refl o e⟩
theorem tgs_cons {g : TG} {gs : TGs} {t : CT} {u : List D → Slots → Store → Option (Slots × Store)} (hg : TgOk X.K cl g t) (hs : TgsOk X.K cl gs u) : TgsOk X.K cl (gCons g gs) (tgCons t u) := by
  intro B H m S S' vs ds σ ρ ρ' Q o e r h k
  unfold tgCons at h
  cases r with
  | nil => cases h
  | @cons v vs d ds h1 r =>
    dsimp only at h
    split at h
    · rename_i ρ1 S1 h2
      refine ⟨v, vs, rfl, hg (x := .val d) o e h1 h2 fun σ1 H1 m1 s1 o1 e1 => ?_⟩
      refine hs o1 e1 (r.mono (s1.kp fun a h => (o.foreign a h).2)) h fun σ' H' m' s' o' e' => k σ' H' m' (s1.trans s') o' e'
    · cases h
theorem tg_tup {n : Nat} {gs : TGs} {u : List D → Slots → Store → Option (Slots × Store)} (hs : TgsOk X.K cl gs u) : TgOk X.K cl (gTup X.K n gs) (tgTup n u) := by
  intro B H m S S' v x σ ρ ρ' Q o e r h k
  unfold tgTup at h
  split at h
  · rename_i ds
    split at h
    · rename_i hl
      obtain ⟨a, vs, rfl, q, rl⟩ := asT_ok (x := .val (.tup ds)) r rfl
      exact ⟨a, vs, rfl, q, rl.length.trans hl, hs o e rl h k⟩
    · cases h
  · rename_i ds
    split at h
    · rename_i hl
      cases r with
      | wt q n rl => exact ⟨_, _, rfl, .inl q, rl.length.trans hl, hs o e rl h k⟩
    · cases h
  · cases h
theorem tg_seq {n : Nat} {gs : TGs} {u : List D → Slots → Store → Option (Slots × Store)} (hs : TgsOk X.K cl gs u) : TgOk X.K cl (gUnl X.K n gs) (tgSeq n u) := by
  intro B H m S S' v x σ ρ ρ' Q o e r h k
  unfold tgSeq at h
  split at h
  · rename_i ds hd
    split at h
    · rename_i hl
      obtain ⟨a, vs, rfl, q, rl⟩ := asL_ok o r hd
      exact ⟨a, vs, rfl, q, rl.length.trans hl, hs o e rl h k⟩
    · cases h
  · cases h
/-- a list of the store with an item more, or changed -/
theorem Ok.write (K : PySem.W.Frag) {B : Addr → Prop} {H : Hp} {m : List Addr} {S : Store} (o : Ok K cl B H m S) {j : Nat} {a : Addr} {u : O} {w : HO} (ha : m[j]? = some a) (hr : ∀ H', (∀ b, b ≠ a → H' b = H b) → H' a = some w → RepO K cl (NN B m) H' m a u) :
    Step H m (upd H a w) m ∧ Ok K cl B (upd H a w) m (S.set j u) := by
  have ham : a ∈ m := List.mem_of_getElem? ha
  have hn : NN B m a := .inr ham
  have st : Step H m (upd H a w) m := ⟨⟨[], by simp, by simp⟩, fun b v e hb _ => by rw [upd_ne fun z => hb (by rw [z]; exact ham)]; exact e, fun b e => by
    by_cases z : b = a
    · rw [z, upd_same]; exact fun q => by cases q
    · rw [upd_ne z]; exact e⟩
  have kp : Kp (NN B m) (NN B m) H (upd H a w) := st.kp fun b h => (o.foreign b h).2
  refine ⟨st, fun b hb => ⟨st.some (o.foreign b hb).1, (o.foreign b hb).2⟩, by rw [List.length_set]; exact o.len, o.nd, fun i b v hi hv => ?_, tabs_upd (.inr (o.nt ham)) o.tabs⟩
  by_cases hij : j = i
  · subst hij
    rw [ha] at hi
    cases hi
    rw [List.getElem?_set_self (by rw [← o.len]; exact (List.getElem?_eq_some_iff.mp ha).1)] at hv
    cases hv
    exact hr _ (fun b hb => upd_ne hb) upd_same
  · rw [List.getElem?_set_ne hij] at hv
    have hba : b ≠ a := fun z => hij (nodup_at o.nd ha (by rw [← z]; exact hi))
    exact (o.obj i b v hi hv).mono kp ⟨[], by simp⟩ (upd_ne hba)
theorem kp_at {N : Addr → Prop} {H H' : Hp} {a : Addr} (hn : N a) (h : ∀ b, b ≠ a → H' b = H b) : Kp N N H H' := ⟨fun b o e hb _ => by rw [h b fun z => hb (z ▸ hn)]; exact e, fun _ z => .inl z⟩
theorem tg_sub {to ti : TE} {co ci : CE} (ho : to = tM X.K cl W co) (hi : ti = tM X.K cl W ci) : TgOk X.K cl (gSub to ti rSetL) (tgSub co ci) := by
  subst ho hi
  intro B H m S S' v x σ ρ ρ' Q o e r h k
  unfold tgSub at h
  split at h
  · rename_i j S1 d h1
    split at h
    · rename_i kk S2 h2
      split at h
      · rename_i ds h3
        split at h
        · rename_i q h4
          cases h
          refine ⟨B, m, S, ρ, o, e, ?_⟩
          rw [h1]
          intro w H1 m1 s1 o1 r1
          refine ⟨B, m1, S1, ρ, o1, s1.env o e, ?_⟩
          rw [h2]
          intro z H2 m2 s2 o2 r2
          obtain ⟨a, ha, rfl⟩ := s2.rep o1 r1
          cases r2
          obtain ⟨xs, e1, r3⟩ := o2.obj j a _ ha h3
          have rd := (s1.trans s2).rep o r
          refine ⟨a, xs, kk, q, rfl, rfl, e1, by rw [r3.length]; exact h4, ?_⟩
          obtain ⟨st, ok⟩ := Ok.write X.K o2 (u := .lst (ds.set q d)) (w := .lst (xs.set q v)) ha fun H' hb hw => ⟨_, hw, (RepL.set (d := d) rd q r3).mono (kp_at (.inr (List.mem_of_getElem? ha)) hb)⟩
          exact k σ _ m2 ((s1.trans s2).trans st) ok (st.env o2 ((s1.trans s2).env o e))
        · cases h
      · cases h
    · cases h
  · cases h
end
noncomputable def sNil : CS := fun ρ S => .nx ρ S
noncomputable def sSeq (a b : CS) : CS := fun ρ S => match a ρ S with
  | .nx ρ' S' => b ρ' S'
  | r => r
noncomputable def sAsg (t : CT) (c : CE) : CS := fun ρ S => (c ρ S).bindS ρ fun x S1 => match t x ρ S1 with
  | some (ρ', S') => .nx ρ' S'
  | none => .bad
noncomputable def sExp (c : CE) : CS := fun ρ S => (c ρ S).bindS ρ fun _ S1 => .nx ρ S1
noncomputable def sRet (c : CE) : CS := fun ρ S => (c ρ S).bindS ρ fun x S1 => .rt x S1
noncomputable def sIf (c : CE) (a b : CS) : CS := fun ρ S => (c ρ S).bindS ρ fun x S1 => match x with
  | .val (.bl true) => a ρ S1
  | .val (.bl false) => b ρ S1
  | _ => .bad
noncomputable def forL (body : D → CS) : List D → CS
  | [], ρ, S => .nx ρ S
  | d :: r, ρ, S => match body d ρ S with
    | .nx ρ' S' => forL body r ρ' S'
    | .ct ρ' S' => forL body r ρ' S'
    | .bk ρ' S' => .nx ρ' S'
    | q => q
/-- what is walked: a list of data -/
inductive IRes where
  | ok (xs : List D) (S : Store) | exc (e : X0) (S : Store) | bad
abbrev CI := Slots → Store → IRes
noncomputable def sFor (ci : CI) (t : CT) (b : CS) : CS := fun ρ S => match ci ρ S with
  | .ok xs S1 => forL (fun d ρ S => match t (.val d) ρ S with
    | some (ρ', S') => b ρ' S'
    | none => .bad) xs ρ S1
  | .exc e S1 => .exc e ρ S1
  | .bad => .bad
section
variable {K : PySem.W.Frag} {cl : ClT} {B : Addr → Prop} {H : Hp} {m : List Addr} {W : WX} {σ : L2.St} {ρ : Slots}
theorem FinS.bind {r : Res} {f : A → Store → SRes} {E : Ends} {R : VK} {S : Store} (o : Ok K cl B H m S) (e : EnvOk K cl (NN B m) H m σ ρ) (h : FinS K cl B H m W (r.bindS ρ f) E)
    (k : ∀ x S' v H' m', Step H m H' m' → Ok K cl B H' m' S' → EnvOk K cl (NN B m') H' m' σ ρ → RepA K cl (NN B m') H' m' v x → FinS K cl B H' m' W (f x S') E → R v H') : Fin K cl B σ H m W r R := by
  cases r with
  | ok x S' => exact fun v H' m' s o' r => k x S' v H' m' s o' (s.env o e) r (FinS.step s h)
  | exc e' S' => exact fun c d H' m' s o' x' => h c d σ H' m' s o' (s.env o e) x'
  | bad => exact h
theorem FinS.bindT {r : Res} {f g : Store → SRes} {E : Ends} {R : Bool → Hp → Prop} {S : Store} (o : Ok K cl B H m S) (e : EnvOk K cl (NN B m) H m σ ρ)
    (h : FinS K cl B H m W (r.bindS ρ fun x S1 => match x with
      | .val (.bl true) => f S1
      | .val (.bl false) => g S1
      | _ => .bad) E)
    (k : ∀ S' H' m', Step H m H' m' → Ok K cl B H' m' S' → EnvOk K cl (NN B m') H' m' σ ρ → (FinS K cl B H' m' W (f S') E → R true H') ∧ (FinS K cl B H' m' W (g S') E → R false H')) : FinT K cl B σ H m W r R := by
  cases r with
  | bad => exact h
  | exc e' S' => exact fun c d H' m' s o' x' => h c d σ H' m' s o' (s.env o e) x'
  | ok x S' =>
    cases x with
    | ref i => exact h
    | val d =>
      cases d with
      | bl b =>
        cases b with
        | true => exact fun H' m' s' o' => (k S' H' m' s' o' (s'.env o e)).1 (FinS.step s' h)
        | false => exact fun H' m' s' o' => (k S' H' m' s' o' (s'.env o e)).2 (FinS.step s' h)
      | _ => exact h
theorem FinS.here {S : Store} {E : Ends} (h : FinS K cl B H m W (.nx ρ S) E) (o : Ok K cl B H m S) (e : EnvOk K cl (NN B m) H m σ ρ) : E.nx σ H := h σ H m Step.refl o e
end
section
variable {X : Cx} {cl : ClT} {W : WX}
theorem pms_nil : PSs X [] (tMS X.K cl W sNil) := PSs.imp pss_nil fun E σ H h => by
  obtain ⟨B, m, S, ρ, o, e, fin⟩ := h
  exact fin.here o e
theorem pms_cons {st : Stmt} {rest : List Stmt} {a b : CS} (h1 : PS X st (tMS X.K cl W a)) (h2 : PSs X rest (tMS X.K cl W b)) : PSs X (st :: rest) (tMS X.K cl W (sSeq a b)) := PSs.imp (pss_cons h1 h2) fun E σ H h => by
  obtain ⟨B, m, S, ρ, o, e, fin⟩ := h
  refine ⟨B, m, S, ρ, o, e, ?_⟩
  unfold sSeq at fin
  cases ha : a ρ S with
  | nx ρ' S' =>
    rw [ha] at fin
    exact fun σ' H' m' s' o' e' => ⟨B, m', S', ρ', o', e', FinS.step s' fin⟩
  | bk ρ' S' => rw [ha] at fin; exact fin
  | ct ρ' S' => rw [ha] at fin; exact fin
  | rt x S' => rw [ha] at fin; exact fin
  | exc x ρ' S' => rw [ha] at fin; exact fin
  | bad => rw [ha] at fin; exact fin
theorem pms_one {st : Stmt} {a : CS} (h1 : PS X st (tMS X.K cl W a)) : PSs X [st] (tMS X.K cl W a) := pss_one h1
theorem tAsg_ok {g : TG} {t : CT} {c : CE} (hg : TgOk X.K cl g t) {E : Ends} {σ : L2.St} {H : Hp} (h : tMS X.K cl W (sAsg t c) E σ H) : tAsg (tM X.K cl W c) g E σ H := by
  obtain ⟨B, m, S, ρ, o, e, fin⟩ := h
  refine ⟨B, m, S, ρ, o, e, FinS.bind o e fin fun x S1 v H1 m1 s1 o1 e1 r1 f1 => ?_⟩
  split at f1
  · rename_i ρ' S' ht
    exact hg o1 e1 r1 ht fun σ' H' m' s' o' e' => f1 σ' H' m' s' o' e'
  · exact f1.elim
theorem pm_set (i : Nat) {x : Str} {e : Expr} {c : CE} {pos pos' : Pos} (hN : X.N.Nodup) (he : PE X e (tM X.K cl W c)) (hi : X.N[i]? = some x := by rfl) (hx : Loc X.env.scope x := by first | exact Or.inl rfl | exact Or.inr rfl)
    (hs : swapsWith e (some (.Name x pos')) pos.line X.env = pure false := by rfl) (hf : X.fn x = true ∨ X.env.scope.names.lookup x = some .local := by first | exact .inl rfl | exact .inr rfl) :
    PS X (.Assign [.Name x pos'] e pos) (tMS X.K cl W (sAsg (tgName i) c)) := PS.imp (ps_set hN hi hx he hs hf) fun _ _ _ h => tAsg_ok (tg_name i) h
theorem pm_asg {tg e : Expr} {c : CE} {g : TG} {t : CT} {pos : Pos} (he : PE X e (tM X.K cl W c)) (hg : PG X tg g) (ht : TgOk X.K cl g t) (hs : swapsWithSole [tg] e pos.line X.env = pure false := by rfl) (hw : swappedStores [tg] e X.env = pure none := by rfl)
    (h1 : (assignEach [tg] X.env).map (·.2) = [assign tg X.env] := by rfl) : PS X (.Assign [tg] e pos) (tMS X.K cl W (sAsg t c)) := PS.imp (ps_asg he hg hs hw h1) fun _ _ _ h => tAsg_ok ht h
theorem pm_exp {e : Expr} {c : CE} {pos : Pos} (he : PE X e (tM X.K cl W c)) (hs : swapsWith e none pos.line X.env = pure false := by rfl) : PS X (.Expr e pos) (tMS X.K cl W (sExp c)) := PS.imp (ps_expr he hs) fun E σ H h => by
  obtain ⟨B, m, S, ρ, o, e, fin⟩ := h
  exact ⟨B, m, S, ρ, o, e, FinS.bind o e fin fun x S1 v H1 m1 s1 o1 e1 r1 f1 => f1.here o1 e1⟩
theorem pm_ret {e : Expr} {c : CE} {pos : Pos} (he : PE X e (tM X.K cl W c)) : PS X (.Return (some e) pos) (tMS X.K cl W (sRet c)) := PS.imp (ps_ret he) fun E σ H h => by
  obtain ⟨B, m, S, ρ, o, e, fin⟩ := h
  exact ⟨B, m, S, ρ, o, e, FinS.bind o e fin fun x S1 v H1 m1 s1 o1 e1 r1 f1 => f1 v H1 m1 Step.refl o1 r1⟩
theorem pm_ifs {c : Expr} {a b : List Stmt} {ct : CE} {ca cb : CS} {pos : Pos} (hc : PT X c (tMT X.K cl W ct)) (ha : PSs X a (tMS X.K cl W ca)) (hb : PSs X b (tMS X.K cl W cb)) : PS X (.If c a b pos) (tMS X.K cl W (sIf ct ca cb)) := PS.imp (ps_if hc ha hb) fun E σ H h => by
  obtain ⟨B, m, S, ρ, o, e, fin⟩ := h
  refine ⟨B, m, S, ρ, o, e, FinS.bindT (f := ca ρ) (g := cb ρ) o e fin fun S1 H1 m1 s1 o1 e1 => ⟨fun q => ?_, fun q => ?_⟩⟩
  · exact iteT ⟨B, m1, S1, ρ, o1, e1, q⟩
  · exact iteF ⟨B, m1, S1, ρ, o1, e1, q⟩
/-- what a walk hands out -/
structure Src (K : PySem.W.Frag) (cl : ClT) (live : (Addr → Prop) → Hp → Prop) (J : It) (xs : List D) : Prop where
  keep : ∀ {N N' H H'}, live N H → Kp N N' H H' → live N' H'
  go : ∀ {N H} (i : Nat), live N H → i < xs.length → J.go i H
  yld : ∀ {B H m S} (i : Nat) {y H'}, Ok K cl B H m S → live (NN B m) H → J.yld i H y H' → ∃ d, (i < xs.length → xs[i]? = some d) ∧ Step H m H' m ∧ Ok K cl B H' m S ∧ Rep K cl (NN B m) H' y d
  stop : ∀ {N H}, live N H → J.stop xs.length H
theorem Src.step {K : PySem.W.Frag} {cl : ClT} {live : (Addr → Prop) → Hp → Prop} {J : It} {xs : List D} (src : Src K cl live J xs) {B : Addr → Prop} {H H' : Hp} {m m' : List Addr} {S : Store} (o : Ok K cl B H m S) (l : live (NN B m) H) (s : Step H m H' m') : live (NN B m') H' :=
  src.keep l (s.kp fun a h => (o.foreign a h).2)
noncomputable def FinI (K : PySem.W.Frag) (cl : ClT) (B : Addr → Prop) (σ : L2.St) (H : Hp) (m : List Addr) (W : WX) (r : IRes) (R : It → Hp → Prop) : Prop :=
  match r with
  | .ok xs S' => ∀ J live H' m', Step H m H' m' → Ok K cl B H' m' S' → live (NN B m') H' → Src K cl live J xs → R J H'
  | .exc e S' => ∀ c d H' m', Step H m H' m' → Ok K cl B H' m' S' → ExcAt K cl (NN B m') H' c d e → W c d σ H'
  | .bad => False
noncomputable def tMI (K : PySem.W.Frag) (cl : ClT) (W : WX) (ci : CI) : TI := fun σ H R => ∃ B m S ρ, Ok K cl B H m S ∧ EnvOk K cl (NN B m) H m σ ρ ∧ FinI K cl B σ H m W (ci ρ S) R
theorem tFor_ok {ci : CI} {g : TG} {t : CT} {b : CS} (hg : TgOk X.K cl g t) {E : Ends} {σ : L2.St} {H : Hp} (h : tMS X.K cl W (sFor ci t b) E σ H) : tFor (tMI X.K cl W ci) g (tMS X.K cl W b) E σ H := by
  obtain ⟨B, m, S, ρ, o, e, fin⟩ := h
  refine ⟨B, m, S, ρ, o, e, ?_⟩
  unfold sFor at fin
  cases hi : ci ρ S with
  | bad => rw [hi] at fin; exact fin
  | exc e' S' => rw [hi] at fin; exact fun c d H' m' s o' x' => fin c d σ H' m' s o' (s.env o e) x'
  | ok xs S1 =>
    rw [hi] at fin
    intro J live H1 m1 s1 o1 l1 src
    let bd : D → CS := fun d ρ S => match t (.val d) ρ S with
      | some (ρ', S') => b ρ' S'
      | none => .bad
    refine ⟨fun i n σ H => n = xs.length - i ∧ i ≤ xs.length ∧ ∃ m S ρ, Ok X.K cl B H m S ∧ EnvOk X.K cl (NN B m) H m σ ρ ∧ live (NN B m) H ∧ FinS X.K cl B H m W (forL bd (xs.drop i) ρ S) E,
      ⟨xs.length, by simp, Nat.zero_le _, m1, S1, ρ, o1, s1.env o e, l1, FinS.step s1 fin⟩, ?_⟩
    rintro i n σ2 H2 ⟨rfl, hle, m2, S2, ρ2, o2, e2, l2, f2⟩
    by_cases hlt : i < xs.length
    · refine .inr ⟨src.go i l2 hlt, fun σ H => i + 1 ≤ xs.length ∧ ∃ m S ρ, Ok X.K cl B H m S ∧ EnvOk X.K cl (NN B m) H m σ ρ ∧ live (NN B m) H ∧ FinS X.K cl B H m W (forL bd (xs.drop (i + 1)) ρ S) E,
        fun σ' H' hn => ⟨xs.length - (i + 1), by omega, rfl, hn⟩, fun y H3 hy => ?_⟩
      obtain ⟨d, hd, s3, o3, r3⟩ := src.yld i o2 l2 hy
      have hd := hd hlt
      have e3 := s3.env o2 e2
      have l3 := src.step o2 l2 s3
      rw [List.drop_eq_getElem_cons hlt] at f2
      rw [List.getElem?_eq_getElem hlt] at hd
      cases hd
      have f3 := FinS.step s3 f2
      have f3 : FinS X.K cl B H3 m2 W (match bd xs[i] ρ2 S2 with
        | .nx ρ' S' => forL bd (xs.drop (i + 1)) ρ' S'
        | .ct ρ' S' => forL bd (xs.drop (i + 1)) ρ' S'
        | .bk ρ' S' => .nx ρ' S'
        | q => q) E := f3
      cases ht : t (.val xs[i]) ρ2 S2 with
      | none =>
        have hb : bd xs[i] ρ2 S2 = .bad := by show (match t (.val xs[i]) ρ2 S2 with | some (ρ', S') => b ρ' S' | none => .bad) = _; rw [ht]
        rw [hb] at f3
        exact f3.elim
      | some z =>
        obtain ⟨ρ4, S4⟩ := z
        have hb : bd xs[i] ρ2 S2 = b ρ4 S4 := by show (match t (.val xs[i]) ρ2 S2 with | some (ρ', S') => b ρ' S' | none => .bad) = _; rw [ht]
        rw [hb] at f3
        refine hg (x := .val xs[i]) o3 e3 r3 ht fun σ4 H4 m4 s4 o4 e4 => ⟨B, m4, S4, ρ4, o4, e4, ?_⟩
        have f4 := FinS.step s4 f3
        have l4 := src.step o3 l3 s4
        cases hr : b ρ4 S4 with
        | bad => rw [hr] at f4; exact f4
        | exc e' ρ' S' => rw [hr] at f4; exact f4
        | rt x S' => rw [hr] at f4; exact f4
        | nx ρ' S' => rw [hr] at f4; exact fun σ' H' m' s' o' e' => ⟨hlt, m', S', ρ', o', e', src.step o4 l4 s', FinS.step s' f4⟩
        | ct ρ' S' => rw [hr] at f4; exact fun σ' H' m' s' o' e' => ⟨hlt, m', S', ρ', o', e', src.step o4 l4 s', FinS.step s' f4⟩
        | bk ρ' S' => rw [hr] at f4; exact fun σ' H' m' s' o' e' => f4 σ' H' m' s' o' e'
    · have hi : i = xs.length := by omega
      subst hi
      rw [List.drop_length] at f2
      exact .inl ⟨src.stop l2, f2.here o2 e2⟩
theorem pm_for {tg iter : Expr} {body : List Stmt} {ci : CI} {g : TG} {t : CT} {b : CS} {pos : Pos} (hp : PassesOwn (model X.prog X.w) X.A X.env X.xe) (hc : X.calm = true) (hi : PI X tg iter (tMI X.K cl W ci)) (hg : PG X tg g) (ht : TgOk X.K cl g t) (hb : PSs X body (tMS X.K cl W b))
    (hs : ∀ x, foldedSetIterable iter X.env x = pure x := by intro _; rfl) : PS X (.For tg iter body [] pos) (tMS X.K cl W (sFor ci t b)) := PS.imp (ps_for hp hc hi hg hb hs) fun _ _ _ h => tFor_ok ht h
end
end T3
namespace T3
open PySem PySem.Spec PyProof.Rows L2
noncomputable def rangeD (lo : Int) (n : Nat) : List D := (List.range n).map fun i => .int (lo + (i : Nat))
noncomputable def ciR1 (c : CE) : CI := fun ρ S => match c ρ S with
  | .ok (.val (.int j)) S1 => if decide (-1000000 ≤ j) && decide (j ≤ 1000000) then .ok (rangeD 0 j.toNat) S1 else .bad
  | .exc e S1 => .exc e S1
  | _ => .bad
noncomputable def ciR2 (c d : CE) : CI := fun ρ S => match c ρ S with
  | .ok (.val (.int i)) S1 => (match d ρ S1 with
    | .ok (.val (.int j)) S2 => if decide (-1000000 ≤ i) && decide (i ≤ 1000000) && decide (-1000000 ≤ j) && decide (j ≤ 1000000) then .ok (rangeD i (j - i).toNat) S2 else .bad
    | .exc e S1 => .exc e S1
    | _ => .bad)
  | .exc e S1 => .exc e S1
  | _ => .bad
noncomputable def signsD (s : Str) : List D := s.cps.toList.map fun c => .str ⟨#[c]⟩
/-- a list, a tuple, a text that nobody changes -/
noncomputable def ciV (c : CE) : CI := fun ρ S => match c ρ S with
  | .ok (.val (.lst ds)) S1 => .ok ds S1
  | .ok (.val (.ro ds)) S1 => .ok ds S1
  | .ok (.val (.tup ds)) S1 => .ok ds S1
  | .ok (.val (.str s)) S1 => .ok (signsD s) S1
  | .exc e S1 => .exc e S1
  | _ => .bad
section
variable {X : Cx} {cl : ClT} {W : WX}
theorem src_rng (K : PySem.W.Frag) {lo : Int} {n : Nat} : Src K cl (fun _ _ => True) (Itr lo n) (rangeD lo n) where
  keep := fun _ _ => trivial
  go := fun i _ h => by
    show i < n
    simpa [rangeD] using h
  yld := fun {B H m S} i {y H'} o _ h => by
    obtain ⟨rfl, rfl⟩ := h
    refine ⟨.int (lo + i), fun hi => ?_, Step.refl, o, .int _⟩
    have hi' : i < n := by simpa [rangeD] using hi
    simp [rangeD, hi']
  stop := fun _ => by
    show n ≤ (rangeD lo n).length
    simp [rangeD]
theorem PI.imp {tg iter : Expr} {w u : TI} (h : PI X tg iter w) (k : ∀ σ H R, u σ H R → w σ H R) : PI X tg iter u := ⟨fun pins s σ H R I q => h.run pins s σ H R I (k _ _ _ q)⟩
theorem PI.or {tg iter : Expr} {w u : TI} (h : PI X tg iter w) (k : PI X tg iter u) : PI X tg iter (fun σ H R => w σ H R ∨ u σ H R) := ⟨fun pins s σ H R I q => q.elim (h.run pins s σ H R I) (k.run pins s σ H R I)⟩
theorem pi_r1 {tg a : Expr} {c : CE} {p pos : Pos} (hm : X.mg "range" = none) (ha : PE X a (tM X.K cl W c)) (hg : Gl X "range" := by rfl) (hs : starEach [a] X.env = (false, eval a X.env) :: starEach [] X.env := by rfl) : PI X tg (.Call (.Name "range" p) [a] [] pos) (tMI X.K cl W (ciR1 c)) :=
  PI.imp (pi_range1 hg hm (pa_cons ha pa_nil hs) hs) fun σ H R h => by
  obtain ⟨B, m, S, ρ, o, e, fin⟩ := h
  refine ⟨B, m, S, ρ, o, e, ?_⟩
  unfold ciR1 at fin
  cases hc : c ρ S with
  | bad => rw [hc] at fin; exact fin
  | exc e' S1 => rw [hc] at fin; exact fin
  | ok x S1 =>
    rw [hc] at fin
    intro v H1 m1 s1 o1 r1
    cases x with
    | ref i => exact fin.elim
    | val d =>
      cases d with
      | int j =>
        cases r1
        dsimp only at fin
        split at fin
        · rename_i hz
          simp only [Bool.and_eq_true, decide_eq_true_eq] at hz
          exact ⟨j, rfl, by omega, by omega, fin _ _ H1 m1 s1 o1 trivial (src_rng X.K)⟩
        · exact fin.elim
      | _ => exact fin.elim
theorem src_lst {K : PySem.W.Frag} {a : Addr} {ds : List D} {d : D} (hd : d = .lst ds ∨ d = .ro ds) : Src K cl (fun N H => Rep K cl N H (.ref a) d) (Itl K a) ds := by
  have view : ∀ {N H}, Rep K cl N H (.ref a) d → ∃ vs, SqL K H a vs ∧ RepL K cl N H vs ds := fun {N H} h => by
    rcases hd with rfl | rfl
    · cases h with
      | lst e n r => exact ⟨_, .of e, r⟩
    · cases h with
      | ro e r => exact ⟨_, e.seq, r⟩
  refine ⟨fun h k => h.mono k, fun i h hi => ?_, fun {B H m S} i {y H'} o h hy => ?_, fun h => ?_⟩
  · obtain ⟨vs, q, r⟩ := view h
    obtain ⟨v, e, _⟩ := r.got (List.getElem?_eq_getElem hi)
    exact ⟨vs, v, q, e⟩
  · obtain ⟨vs, q, r⟩ := view h
    obtain ⟨rfl, hy⟩ := hy
    obtain ⟨d, h1, h2⟩ := r.get (hy vs q)
    exact ⟨d, fun _ => h1, Step.refl, o, h2⟩
  · obtain ⟨vs, q, r⟩ := view h
    exact ⟨vs, q, by rw [r.length]; exact Nat.le_refl _⟩
theorem src_tup {K : PySem.W.Frag} {a : Addr} {ds : List D} : Src K cl (fun N H => Rep K cl N H (.ref a) (.tup ds)) (Itt K a) ds := by
  have view : ∀ {N H}, Rep K cl N H (.ref a) (.tup ds) → ∃ vs, SqT K H a vs ∧ RepL K cl N H vs ds := fun {N H} h => by
    cases h with
    | tup e r => exact ⟨_, e.seq, r⟩
  refine ⟨fun h k => h.mono k, fun i h hi => ?_, fun {B H m S} i {y H'} o h hy => ?_, fun h => ?_⟩
  · obtain ⟨vs, q, r⟩ := view h
    obtain ⟨v, e, _⟩ := r.got (List.getElem?_eq_getElem hi)
    exact ⟨vs, v, q, e⟩
  · obtain ⟨vs, q, r⟩ := view h
    obtain ⟨rfl, hy⟩ := hy
    obtain ⟨d, h1, h2⟩ := r.get (hy vs q)
    exact ⟨d, fun _ => h1, Step.refl, o, h2⟩
  · obtain ⟨vs, q, r⟩ := view h
    exact ⟨vs, q, by rw [r.length]; exact Nat.le_refl _⟩
theorem src_str {K : PySem.W.Frag} {s : Str} : Src K cl (fun _ _ => True) (Its s) (signsD s) := by
  refine ⟨fun _ _ => trivial, fun i _ hi => ?_, fun {B H m S} i {y H'} o _ hy => ?_, fun _ => ?_⟩
  · show i < s.cps.size
    simpa [signsD] using hi
  · obtain ⟨rfl, c, hc, rfl⟩ := hy
    refine ⟨.str ⟨#[c]⟩, fun _ => ?_, Step.refl, o, .str _⟩
    rw [← Array.getElem?_toList] at hc
    simp only [signsD, List.getElem?_map, hc]
    rfl
  · show s.cps.size ≤ (signsD s).length
    simp [signsD]
theorem pi_v {tg e : Expr} {c : CE} (he : PE X e (tM X.K cl W c)) : PI X tg e (tMI X.K cl W (ciV c)) :=
  PI.imp (PI.or (pi_list he) (PI.or (pi_tup he) (pi_str he))) fun σ H R h => by
  obtain ⟨B, m, S, ρ, o, e, fin⟩ := h
  unfold ciV at fin
  cases hc : c ρ S with
  | bad => rw [hc] at fin; exact fin.elim
  | exc e' S1 => rw [hc] at fin; exact .inl ⟨B, m, S, ρ, o, e, by rw [hc]; exact fin⟩
  | ok x S1 =>
    rw [hc] at fin
    cases x with
    | ref i => exact fin.elim
    | val d =>
      cases d with
      | lst ds =>
        refine .inl ⟨B, m, S, ρ, o, e, ?_⟩
        rw [hc]
        intro v H1 m1 s1 o1 r1
        obtain ⟨a, vs, rfl, q, rl⟩ := asL_ok (x := .val (.lst ds)) o1 r1 rfl
        exact ⟨a, rfl, ⟨vs, q⟩, fin _ _ H1 m1 s1 o1 r1 (src_lst (.inl rfl))⟩
      | ro ds =>
        refine .inl ⟨B, m, S, ρ, o, e, ?_⟩
        rw [hc]
        intro v H1 m1 s1 o1 r1
        obtain ⟨a, vs, rfl, q, rl⟩ := asL_ok (x := .val (.ro ds)) o1 r1 rfl
        exact ⟨a, rfl, ⟨vs, q⟩, fin _ _ H1 m1 s1 o1 r1 (src_lst (.inr rfl))⟩
      | tup ds =>
        refine .inr (.inl ⟨B, m, S, ρ, o, e, ?_⟩)
        rw [hc]
        intro v H1 m1 s1 o1 r1
        obtain ⟨a, vs, rfl, q, rl⟩ := asT_ok (x := .val (.tup ds)) r1 rfl
        exact ⟨a, rfl, ⟨vs, q⟩, fin _ _ H1 m1 s1 o1 r1 src_tup⟩
      | str s =>
        refine .inr (.inr ⟨B, m, S, ρ, o, e, ?_⟩)
        rw [hc]
        intro v H1 m1 s1 o1 r1
        cases r1
        exact ⟨s, rfl, fin _ _ H1 m1 s1 o1 trivial src_str⟩
      | _ => exact fin.elim
end
end T3
namespace T3
open PySem PySem.Spec PyProof.Rows L2
abbrev W0 : WX := fun _ _ _ _ => False
noncomputable def wipeR (ρ : Slots) : List Nat → Slots
  | [] => ρ
  | v :: vs => (wipeR ρ vs).set v none
/-- one item: what it gives, the store behind; none: not served -/
abbrev Elm := D → Store → Option (Option D × Store)
noncomputable def lcGo (f : Elm) : List D → Store → Option (List D × Store)
  | [], S => some ([], S)
  | d :: r, S => match f d S with
    | some (some y, S') => (match lcGo f r S' with
      | some (ys, S2) => some (y :: ys, S2)
      | none => none)
    | some (none, S') => lcGo f r S'
    | none => none
noncomputable def elm (t : CT) (ct ce : CE) (ρ : Slots) : Elm := fun d S => match t (.val d) ρ S with
  | some (ρ', S') => (match ct ρ' S' with
    | .ok (.val (.bl true)) S2 => (match ce ρ' S2 with
      | .ok (.val y) S3 => some (some y, S3)
      | _ => none)
    | .ok (.val (.bl false)) S2 => some (none, S2)
    | _ => none)
  | none => none
noncomputable def cYes : CE := cB true
noncomputable def cLc (fr : Bool) (vs : List Nat) (ci : CI) (t : CT) (ct ce : CE) : CE := fun ρ S => match ci ρ S with
  | .ok xs S1 => (match lcGo (elm t ct ce (wipeR ρ vs)) xs S1 with
    | some (ds, S2) => if szOk ds.length then mkL fr ds S2 else .bad
    | none => .bad)
  | .exc e S1 => .exc e S1
  | .bad => .bad
/-- a block's target: just its own names -/
noncomputable def TgC (K : PySem.W.Frag) (cl : ClT) (vs : List Nat) (g : TG) (t : CT) : Prop :=
  ∀ {B : Addr → Prop} {H : Hp} {m : List Addr} {S S' : Store} {v : V} {x : A} {σ : L2.St} {ρ ρ' : Slots} {Q : L2.St → Hp → Prop}, Ok K cl B H m S → EnvOk K cl (NN B m) H m σ ρ → RepA K cl (NN B m) H m v x → t x ρ S = some (ρ', S') →
    (∀ σ', wipe σ' vs = wipe σ vs → S' = S → EnvOk K cl (NN B m) H m σ' ρ' → Q σ' H) → g v σ H Q
theorem wipe_get {σ : L2.St} : ∀ {vs : List Nat} {j : Nat}, j ∉ vs → (wipe σ vs)[j]? = σ[j]?
  | [], _, _ => rfl
  | v :: vs, j, h => by
    have h1 : v ≠ j := fun z => h (by rw [z]; exact List.mem_cons_self)
    show ((wipe σ vs).set v none)[j]? = _
    rw [List.getElem?_set_ne h1]
    exact wipe_get fun z => h (List.mem_cons_of_mem _ z)
theorem wipe_in {σ : L2.St} : ∀ {vs : List Nat} {j : Nat}, j ∈ vs → j < σ.length → (wipe σ vs)[j]? = some none
  | v :: vs, j, h, hl => by
    show ((wipe σ vs).set v none)[j]? = _
    by_cases e : v = j
    · subst e
      rw [List.getElem?_set_self (by rw [wipe_length]; exact hl)]
    · rw [List.getElem?_set_ne e]
      exact wipe_in ((List.mem_cons.mp h).resolve_left fun z => e z.symm) hl
theorem wipe_eq {σ τ : L2.St} {vs : List Nat} (hl : σ.length = τ.length) (h : ∀ j, j ∉ vs → σ[j]? = τ[j]?) : wipe σ vs = wipe τ vs := by
  apply List.ext_getElem?
  intro j
  by_cases hj : j ∈ vs
  · by_cases hlt : j < σ.length
    · rw [wipe_in hj hlt, wipe_in hj (by omega)]
    · rw [List.getElem?_eq_none (by rw [wipe_length]; omega), List.getElem?_eq_none (by rw [wipe_length]; omega)]
  · rw [wipe_get hj, wipe_get hj]
    exact h j hj
theorem wipe_set {σ : L2.St} {vs : List Nat} {i : Nat} {x : Option V} (hi : i ∈ vs) : wipe (σ.set i x) vs = wipe σ vs := wipe_eq (by simp) fun j hj => by
  have h1 : i ≠ j := fun z => hj (by rw [← z]; exact hi)
  rw [List.getElem?_set_ne h1]
theorem wipe_wipe {σ : L2.St} {vs us : List Nat} (h : ∀ i ∈ us, i ∈ vs) : wipe (wipe σ us) vs = wipe σ vs := wipe_eq (wipe_length _ _) fun j hj => wipe_get fun z => hj (h j z)
section
variable {X : Cx} {cl : ClT} {W : WX} {K : PySem.W.Frag}
theorem tgc_name {vs : List Nat} (i : Nat) (hi : i ∈ vs) : TgC K cl vs (gName i) (tgName i) := by
  intro B H m S S' v x σ ρ ρ' Q o e r h k
  cases h
  exact k _ (wipe_set hi) rfl (e.set i r)
theorem EnvOk.wipe {N : Addr → Prop} {H : Hp} {m : List Addr} {σ : L2.St} {ρ : Slots} (e : EnvOk K cl N H m σ ρ) : ∀ vs : List Nat, EnvOk K cl N H m (L2.wipe σ vs) (wipeR ρ vs)
  | [] => e
  | v :: vs => by
    have ih := EnvOk.wipe e vs
    refine ⟨by show ((wipeR ρ vs).set v none).length = ((L2.wipe σ vs).set v none).length; simp [ih.len], fun j x hj => ?_⟩
    have hj : ((wipeR ρ vs).set v none)[j]? = some (some x) := hj
    by_cases hv : v = j
    · subst hv
      by_cases hl : v < (wipeR ρ vs).length
      · rw [List.getElem?_set_self hl] at hj; cases hj
      · rw [List.getElem?_eq_none (by simpa using hl)] at hj; cases hj
    · rw [List.getElem?_set_ne hv] at hj
      obtain ⟨w, h1, h2⟩ := ih.get j x hj
      exact ⟨w, by show ((L2.wipe σ vs).set v none)[j]? = _; rw [List.getElem?_set_ne hv]; exact h1, h2⟩
/-- the list under construction as one more thing that others may not count on -/
noncomputable def BD (B : Addr → Prop) (p : Addr) : Addr → Prop := fun a => B a ∨ a = p
theorem Kp.born {B : Addr → Prop} {H : Hp} {m : List Addr} {p : Addr} {u : HO} (hp : H p = none) : Kp (NN B m) (NN (BD B p) m) H (upd H p u) := ⟨fun a x e _ _ => by rw [upd_ne (ne_of_none e hp)]; exact e, fun a z => by
  rcases z with (z | z) | z
  · exact .inl (.inl z)
  · rw [z]; exact .inr hp
  · exact .inl (.inr z)⟩
theorem Ok.born {B : Addr → Prop} {H : Hp} {m : List Addr} {S : Store} {p : Addr} {u : HO} (o : Ok K cl B H m S) (hp : H p = none) : Ok K cl (BD B p) (upd H p u) m S := by
  refine ⟨fun a z => ?_, o.len, o.nd, fun i a x hi hx => ?_, tabs_upd (.inl hp) o.tabs⟩
  · rcases z with z | z
    · exact ⟨(Step.new hp (m := m)).some (o.foreign a z).1, (o.foreign a z).2⟩
    · rw [z]; exact ⟨by rw [upd_same]; exact fun q => by (cases q), fun z => o.may (.inr z) hp⟩
  · have r := o.obj i a x hi hx
    exact r.mono (Kp.born hp) ⟨[], by simp⟩ (upd_ne (fun z => r.there (z ▸ hp)))
/-- it grows -/
theorem Ok.grow {B : Addr → Prop} {H : Hp} {m : List Addr} {S : Store} {p : Addr} {u : HO} (o : Ok K cl (BD B p) H m S) {ys : List V} (hL : H p = some (.lst ys)) : Ok K cl (BD B p) (upd H p u) m S := by
  have hpm : p ∉ m := (o.foreign p (.inr rfl)).2
  refine ⟨fun a z => ⟨?_, (o.foreign a z).2⟩, o.len, o.nd, fun i a x hi hx => ?_, tabs_upd (.inr ⟨_, hL, nt_of (.inl ⟨_, rfl⟩)⟩) o.tabs⟩
  · by_cases e : a = p
    · rw [e, upd_same]; exact fun q => by cases q
    · rw [upd_ne e]; exact (o.foreign a z).1
  · have r := o.obj i a x hi hx
    have ha : a ≠ p := fun z => hpm (z ▸ List.mem_of_getElem? hi)
    exact r.mono (kp_at (.inl (.inr rfl)) fun b hb => upd_ne hb) ⟨[], by simp⟩ (upd_ne ha)
theorem Ok.less {B B' : Addr → Prop} {H : Hp} {m : List Addr} {S : Store} (o : Ok K cl B' H m S) (h : ∀ a, B a → B' a) : Ok K cl B H m S := by
  have hw : ∀ a, NN B m a → NN B' m a := fun a z => z.imp (h a) id
  refine ⟨fun a z => o.foreign a (h a z), o.len, o.nd, fun i a x hi hx => ?_, o.tabs⟩
  have r := o.obj i a x hi hx
  cases x with
  | lst ds => obtain ⟨xs, e, r⟩ := r; exact ⟨xs, e, r.weak hw⟩
  | dic ks ds => obtain ⟨xs, e, l, r⟩ := r; exact ⟨xs, e, l, r.weak hw⟩
  | ins c ns zs => obtain ⟨dx, xs, e, l, r⟩ := r; exact ⟨dx, xs, e, l, r.weak hw⟩
/-- the made list at its end -/
theorem born_end {B : Addr → Prop} {σ : L2.St} {H1 H : Hp} {m1 m : List Addr} {S : Store} {fr : Bool} {ds : List D} {xs : List V} {p : Addr} {Q : VK} (hp : H1 p = none) (st : Step H1 m1 H m) (o : Ok K cl (BD B p) H m S) (e : H p = some (.lst xs)) (r : RepL K cl (NN (BD B p) m) H xs ds)
    (hB : ¬ B p) (h : Fin K cl B σ H1 m1 W (mkL fr ds S) Q) : Q (.ref p) H := by
  have hpm : p ∉ m := (o.foreign p (.inr rfl)).2
  have hw : ∀ a, NN B m a → NN (BD B p) m a := fun a z => z.imp .inl id
  have o' : Ok K cl B H m S := o.less fun a z => .inl z
  have hn : ¬ NN B m p := fun z => z.elim hB hpm
  cases fr with
  | true => exact h _ _ _ st o' (.lst e hn (r.weak hw))
  | false =>
    obtain ⟨q, rfl, hq⟩ := st.ext
    have hw2 : ∀ a, NN B (m1 ++ q ++ [p]) a → NN (BD B p) (m1 ++ q) a := fun a z => by
      rcases z with z | z
      · exact .inl (.inl z)
      · rcases List.mem_append.mp z with z | z
        · exact .inr z
        · exact .inl (.inr (List.mem_singleton.mp z))
    refine h _ H (m1 ++ q ++ [p]) ⟨⟨q ++ [p], by simp, fun a ha => ?_⟩, st.keep, st.stay⟩ ?_ ⟨p, by rw [← o.len, List.getElem?_append_right (Nat.le_refl _)]; simp, rfl⟩
    · rcases List.mem_append.mp ha with ha | ha
      · exact hq a ha
      · rw [List.mem_singleton.mp ha]; exact hp
    · refine ⟨fun a z => ⟨(o'.foreign a z).1, fun y => ?_⟩, by have := o.len; simp at this ⊢; omega, ?_, fun i a x hi hx => ?_, o.tabs⟩
      · rcases List.mem_append.mp y with y | y
        · exact (o'.foreign a z).2 y
        · rw [List.mem_singleton.mp y] at z; exact hB z
      · rw [List.nodup_append]
        exact ⟨o.nd, by simp, fun a ha b hb => by rw [List.mem_singleton.mp hb]; exact fun e => hpm (e ▸ ha)⟩
      · by_cases hl : i < (m1 ++ q).length
        · rw [List.getElem?_append_left hl] at hi
          rw [List.getElem?_append_left (by rw [← o.len]; exact hl)] at hx
          have r2 := o.obj i a x hi hx
          cases x with
          | lst ds => obtain ⟨xs, e, r⟩ := r2; exact ⟨xs, e, r.weak hw2⟩
          | dic ks ds => obtain ⟨xs, e, l, r⟩ := r2; exact ⟨xs, e, l, r.weak hw2⟩
          | ins c ns zs => obtain ⟨dx, xs, e, l, r⟩ := r2; exact ⟨dx, xs, e, l, RepAs.mono ⟨fun _ _ e _ _ => e, fun _ z => .inl z⟩ ⟨[p], rfl⟩ (r.weak hw2)⟩
        · have hi' := (List.getElem?_eq_some_iff.mp hi).1
          have ei : i = (m1 ++ q).length := by simp at hi' hl ⊢; omega
          subst ei
          rw [List.getElem?_append_right (Nat.le_refl _)] at hi
          rw [o.len, List.getElem?_append_right (Nat.le_refl _)] at hx
          simp at hi hx
          subst hi hx
          exact ⟨xs, e, r.weak hw2⟩
theorem lcGo_cons {f : Elm} {d : D} {r : List D} {S S2 : Store} {ys : List D} (h : lcGo f (d :: r) S = some (ys, S2)) : (∃ y S' zs, f d S = some (some y, S') ∧ lcGo f r S' = some (zs, S2) ∧ ys = y :: zs) ∨ ∃ S', f d S = some (none, S') ∧ lcGo f r S' = some (ys, S2) := by
  unfold lcGo at h
  split at h
  · rename_i y S' h1
    split at h
    · rename_i zs S3 h2
      cases h
      exact .inl ⟨y, S', zs, h1, h2, rfl⟩
    · cases h
  · rename_i S' h1
    exact .inr ⟨S', h1, h⟩
  · cases h
theorem tLc_ok {fr : Bool} {vs : List Nat} {ci : CI} {g : TG} {t : CT} {ct ce : CE} (hg : TgC X.K cl vs g t) {tt : TT} (htt : ∀ σ H Q, tMT X.K cl W0 ct σ H Q → tt σ H Q) {σ : L2.St} {H : Hp} {Q : VK} (h : tM X.K cl W (cLc fr vs ci t ct ce) σ H Q) :
    tLc (tMI X.K cl W ci) g tt (tM X.K cl W0 ce) vs σ H Q := by
  obtain ⟨B, m, S, ρ, o, e, fin⟩ := h
  refine ⟨B, m, S, ρ, o, e, ?_⟩
  unfold cLc at fin
  cases hi : ci ρ S with
  | bad => rw [hi] at fin; exact fin
  | exc e' S' => rw [hi] at fin; exact fin
  | ok xs S1 =>
    rw [hi] at fin
    dsimp only at fin
    split at fin
    rotate_left
    · exact fin.elim
    rename_i ds S2 hgo
    split at fin
    rotate_left
    · exact fin.elim
    rename_i hz
    intro J live H1 m1 s1 o1 l1 src D hD
    have fin1 := Fin.step s1 fin
    have hB : ¬ B D := fun z => (o1.foreign D z).1 hD
    have e1 := s1.env o e
    have e1' : EnvOk X.K cl (NN (BD B D) m1) (upd H1 D (.lst [])) m1 σ ρ := e1.mono (Kp.born hD) ⟨[], by simp⟩
    refine ⟨fun i n H => n = xs.length - i ∧ i ≤ xs.length ∧ ∃ m S acc av rest, Step H1 m1 H m ∧ Ok X.K cl (BD B D) H m S ∧ EnvOk X.K cl (NN (BD B D) m) H m σ ρ ∧ live (NN (BD B D) m) H ∧ H D = some (.lst av) ∧ RepL X.K cl (NN (BD B D) m) H av acc ∧
        lcGo (elm t ct ce (wipeR ρ vs)) (xs.drop i) S = some (rest, S2) ∧ ds = acc ++ rest,
      ⟨xs.length, by simp, Nat.zero_le _, m1, S1, [], [], ds, Step.new hD, o1.born hD, e1', src.keep l1 (Kp.born hD), upd_same, .nil, hgo, rfl⟩, ?_⟩
    rintro i n H2 ⟨rfl, hle, m2, S3, acc, av, rest, st2, o2, e2, l2, hd2, ra2, go2, eds⟩
    by_cases hlt : i < xs.length
    · refine .inr ⟨src.go i l2 hlt, fun H => i + 1 ≤ xs.length ∧ ∃ m S acc av rest, Step H1 m1 H m ∧ Ok X.K cl (BD B D) H m S ∧ EnvOk X.K cl (NN (BD B D) m) H m σ ρ ∧ live (NN (BD B D) m) H ∧ H D = some (.lst av) ∧ RepL X.K cl (NN (BD B D) m) H av acc ∧
          lcGo (elm t ct ce (wipeR ρ vs)) (xs.drop (i + 1)) S = some (rest, S2) ∧ ds = acc ++ rest, fun H' hn => ⟨xs.length - (i + 1), by omega, rfl, hn⟩, fun y H3 hy => ?_⟩
      obtain ⟨d, hd, s3, o3, r3⟩ := src.yld i o2 l2 hy
      have hd := hd hlt
      rw [List.drop_eq_getElem_cons hlt] at go2
      rw [List.getElem?_eq_getElem hlt] at hd
      cases hd
      have l3 := src.step o2 l2 s3
      have e3 := s3.env o2 e2
      have kp3 : Kp (NN (BD B D) m2) (NN (BD B D) m2) H2 H3 := s3.kp fun a h => (o2.foreign a h).2
      have ra3 := ra2.mono kp3
      have hDm : D ∉ m2 := (o2.foreign D (.inr rfl)).2
      have hd3 : H3 D = some (.lst av) := s3.kept D _ hd2 hDm
      have st3 := st2.trans s3
      have he : ∃ ρ4, t (.val xs[i]) (wipeR ρ vs) S3 = some (ρ4, S3) ∧ ((∃ y S5 S6 zs, ct ρ4 S3 = .ok (.val (.bl true)) S5 ∧ ce ρ4 S5 = .ok (.val y) S6 ∧ lcGo (elm t ct ce (wipeR ρ vs)) (xs.drop (i + 1)) S6 = some (zs, S2) ∧ rest = y :: zs) ∨
          ∃ S5, ct ρ4 S3 = .ok (.val (.bl false)) S5 ∧ lcGo (elm t ct ce (wipeR ρ vs)) (xs.drop (i + 1)) S5 = some (rest, S2)) ∨ ∃ ρ4 S4, t (.val xs[i]) (wipeR ρ vs) S3 = some (ρ4, S4) ∧ S4 ≠ S3 := by
        rcases lcGo_cons go2 with ⟨y, S', zs, h1, h2, h3⟩ | ⟨S', h1, h2⟩
        all_goals
          unfold elm at h1
          cases ht : t (.val xs[i]) (wipeR ρ vs) S3 with
          | none => rw [ht] at h1; cases h1
          | some q =>
            obtain ⟨ρ4, S4⟩ := q
            rw [ht] at h1
            dsimp only at h1
            by_cases hS : S4 = S3
            · subst hS
              refine ⟨ρ4, .inl ⟨rfl, ?_⟩⟩
              cases hc : ct ρ4 S4 with
              | bad => rw [hc] at h1; cases h1
              | exc _ _ => rw [hc] at h1; cases h1
              | ok x S5 =>
                rw [hc] at h1
                cases x with
                | ref _ => cases h1
                | val z =>
                  cases z with
                  | bl b =>
                    cases b with
                    | true =>
                      dsimp only at h1
                      cases hv : ce ρ4 S5 with
                      | bad => rw [hv] at h1; cases h1
                      | exc _ _ => rw [hv] at h1; cases h1
                      | ok w S6 =>
                        rw [hv] at h1
                        cases w with
                        | ref _ => cases h1
                        | val w => first | (cases h1; exact .inl ⟨_, S5, _, zs, rfl, hv, h2, h3⟩) | cases h1
                    | false => first | (cases h1; exact .inr ⟨_, rfl, h2⟩) | cases h1
                  | _ => cases h1
            · exact ⟨ρ4, .inr ⟨ρ4, S4, rfl, hS⟩⟩
      obtain ⟨ρ4, he⟩ := he
      rcases he with ⟨ht, he⟩ | ⟨ρ5, S4, ht, hne⟩
      rotate_left
      · exact hg (x := .val xs[i]) o3 (e3.wipe vs) r3 ht fun σ' _ q _ => absurd q hne
      refine hg (x := .val xs[i]) o3 (e3.wipe vs) r3 ht fun σ4 w4 _ e4 => ⟨w4.trans (wipe_wipe fun i h => h), ?_⟩
      -- the test
      rcases he with ⟨y, S5, S6, zs, hc, hv, hgo', hr⟩ | ⟨S5, hc, hgo'⟩
      · refine htt _ _ _ ⟨BD B D, m2, S3, ρ4, o3, e4, ?_⟩
        rw [hc]
        intro H5 m5 s5 o5
        refine iteT ⟨BD B D, m5, S5, ρ4, o5, s5.env o3 e4, ?_⟩
        rw [hv]
        intro u H6 m6 s6 o6 r6
        have s56 := s5.trans s6
        have hD6 : D ∉ m6 := (o6.foreign D (.inr rfl)).2
        have hd6 : H6 D = some (.lst av) := s56.kept D _ hd3 hDm
        have kp6 : Kp (NN (BD B D) m2) (NN (BD B D) m6) H3 H6 := s56.kp fun a h => (o3.foreign a h).2
        have ex6 : ∃ r, m6 = m2 ++ r := let ⟨r, h, _⟩ := s56.ext; ⟨r, h⟩
        have ra6 := ra3.mono kp6
        have kg : Kp (NN (BD B D) m6) (NN (BD B D) m6) H6 (upd H6 D (.lst (av ++ [u]))) := kp_at (.inl (.inr rfl)) fun b hb => upd_ne hb
        have hlen : av.length < sizeLine := by
          rw [ra6.length]
          have := of_decide_eq_true hz
          rw [eds, List.length_append, hr, List.length_cons] at this
          exact Nat.lt_of_lt_of_le (by omega : acc.length < 16000000) (by decide)
        refine ⟨av, hd6, hlen, hlt, m6, S6, acc ++ [y], av ++ [u], zs, ?_, o6.grow hd6, (e3.mono kp6 ex6).mono kg ⟨[], by simp⟩, src.keep (src.keep l3 kp6) kg, upd_same, (ra6.append (.cons r6 .nil)).mono kg, hgo', by rw [eds, hr]; simp⟩
        have st6 := st3.trans s56
        refine ⟨st6.ext, fun a z hz hn nt => ?_, fun a hn => ?_⟩
        · rw [upd_ne fun q => by rw [q, hD] at hz; cases hz]; exact st6.keep a z hz hn nt
        · by_cases q : a = D
          · rw [q, upd_same]; exact fun z => by cases z
          · rw [upd_ne q]; exact st6.stay a hn
      · refine htt _ _ _ ⟨BD B D, m2, S3, ρ4, o3, e4, ?_⟩
        rw [hc]
        intro H5 m5 s5 o5
        have kp5 : Kp (NN (BD B D) m2) (NN (BD B D) m5) H3 H5 := s5.kp fun a h => (o3.foreign a h).2
        have ex5 : ∃ r, m5 = m2 ++ r := let ⟨r, h, _⟩ := s5.ext; ⟨r, h⟩
        exact iteF ⟨hlt, m5, S5, acc, av, rest, st3.trans s5, o5, e3.mono kp5 ex5, src.keep l3 kp5, s5.kept D _ hd3 hDm, ra3.mono kp5, hgo', eds⟩
    · have hi : i = xs.length := by omega
      subst hi
      rw [List.drop_length] at go2
      cases go2
      rw [List.append_nil] at eds
      subst eds
      exact .inl ⟨src.stop l2, born_end hD st2 o2 hd2 ra2 hB fin1⟩
end
end T3
namespace T3
open PySem PySem.Spec PyProof.Rows L2
section
variable {X : Cx} {cl : ClT} {W : WX}
theorem pm_lc (fr : Bool) {elt tg iter : Expr} {ifs : List Expr} {scope : Scope} {own : List (Str × Nat)} {pos : Pos} {ci : CI} {g : TG} {t : CT} {ct ce : CE} {tt : TT} (hc : X.calm = true) (hN : X.N.Nodup) (hi : PI X tg iter (tMI X.K cl W ci)) (ok : BlkOk X.N X.env.scope scope own)
    (hg : ∀ (s : Shared) (H : Hp) (C : Addr) (cl' : List (Str × Addr)) (fp : List Addr), PG (X.blk s H scope (compEnvC scope cl' C X.env) fp) tg g) (hgo : TgC X.K cl (own.map (·.2)) g t)
    (ht : ∀ (s : Shared) (H : Hp) (C : Addr) (cl' : List (Str × Addr)) (fp : List Addr), PTs (X.blk s H scope (compEnvC scope cl' C X.env) fp) ifs tt) (hto : ∀ σ H Q, tMT X.K cl W0 ct σ H Q → tt σ H Q)
    (he : ∀ (s : Shared) (H : Hp) (C : Addr) (cl' : List (Str × Addr)) (fp : List Addr), PE (X.blk s H scope (compEnvC scope cl' C X.env) fp) elt (tM X.K cl W0 ce)) (hs : ∀ x, foldedSetIterable iter X.env x = pure x := by intro _; rfl) :
    PE X (.ListComp elt [⟨tg, iter, ifs, 0⟩] scope pos) (tM X.K cl W (cLc fr (own.map (·.2)) ci t ct ce)) := PE.imp (pe_lc hc hN hi ok hg ht he hs) fun _ _ _ h => tLc_ok hgo hto h
theorem tYes_ok {K : PySem.W.Frag} {σ : L2.St} {H : Hp} {Q : Bool → Hp → Prop} (h : tMT K cl W0 cYes σ H Q) : tYes σ H Q := by
  obtain ⟨B, m, S, ρ, o, e, fin⟩ := h
  exact fin H m Step.refl o
theorem pm_setLc (fr : Bool) (i : Nat) {y : Str} {py : Pos} {elt tg iter : Expr} {ifs : List Expr} {scope : Scope} {own : List (Str × Nat)} {pos spos : Pos} {ci : CI} {g : TG} {t : CT} {ct ce : CE} {tt : TT} (hc : X.calm = true) (hN : X.N.Nodup)
    (hsw : swapsWith (.ListComp elt [⟨tg, iter, ifs, 0⟩] scope pos) (some (.Name y py)) spos.line X.env = pure true) (hi : PI X tg iter (tMI X.K cl W ci)) (ok : BlkOk X.N X.env.scope scope own)
    (hg : ∀ (s : Shared) (H : Hp) (C : Addr) (cl' : List (Str × Addr)) (fp : List Addr), PG (X.blk s H scope (compEnvC scope cl' C X.env) fp) tg g) (hgo : TgC X.K cl (own.map (·.2)) g t)
    (ht : ∀ (s : Shared) (H : Hp) (C : Addr) (cl' : List (Str × Addr)) (fp : List Addr), PTs (X.blk s H scope (compEnvC scope cl' C X.env) fp) ifs tt) (hto : ∀ σ H Q, tMT X.K cl W0 ct σ H Q → tt σ H Q)
    (he : ∀ (s : Shared) (H : Hp) (C : Addr) (cl' : List (Str × Addr)) (fp : List Addr), PE (X.blk s H scope (compEnvC scope cl' C X.env) fp) elt (tM X.K cl W0 ce)) (hs : ∀ x, foldedSetIterable iter X.env x = pure x := by intro _; rfl)
    (hy : X.N[i]? = some y := by rfl) (hyl : X.env.scope.names.lookup y = some .local := by rfl) :
    PS X (.Assign [.Name y py] (.ListComp elt [⟨tg, iter, ifs, 0⟩] scope pos) spos) (tMS X.K cl W (sAsg (tgName i) (cLc fr (own.map (·.2)) ci t ct ce))) :=
  PS.imp (ps_setLc hc hN hy hyl hsw hi ok hg ht he hs) fun E σ H h => by
  obtain ⟨B, m, S, ρ, o, e, fin⟩ := h
  refine tLc_ok hgo hto ⟨B, m, S, ρ, o, e, FinS.bind o e fin fun x S1 v H1 m1 s1 o1 e1 r1 f1 => ?_⟩
  exact f1 _ H1 m1 Step.refl o1 (e1.set i r1)
noncomputable def cB1 (f : List A → Store → Res) (c : CA) : CE := fun ρ S => (c ρ S).bind f
theorem tCB_ok {r : List V → Hp → VK → Prop} {f : List A → Store → Res} {c : CA} (hf : CaOk X.K cl r f) {σ : L2.St} {H : Hp} {Q : VK} (h : tM X.K cl W (cB1 f c) σ H Q) : tCB r (tML X.K cl W c) σ H Q := by
  obtain ⟨B, m, S, ρ, o, e, fin⟩ := h
  exact ⟨B, m, S, ρ, o, e, FinL.bind fin fun xs S1 vs H1 m1 s1 o1 r1 f1 => hf o1 r1 f1⟩
theorem pm_b {id nm : String} {x : Str} {r : List V → Hp → VK → Prop} {f : List A → Store → Res} {c : CA} {e : Expr} {es : List Expr} {p pos : Pos} (hr : CallR X (.builtin id) r) (hf : CaOk X.K cl r f) (hm : X.mg x = none) (hv : bootBuiltins x = some (.builtin id)) (ha : PA X (e :: es) (tML X.K cl W c)) (hg : Gl X x := by rfl)
    (hn : x ≠ "__name__" := by decide) (hdb : (x == ("__debug__" : Str)) = false := by decide) (he : starEach (e :: es) X.env = (false, eval e X.env) :: starEach es X.env := by rfl) (hpl : (backTo pos (starEach es X.env)).any (·.1) = false := by rfl) :
    PE X (.Call (.Name x p) (e :: es) [] pos) (tM X.K cl W (cB1 f c)) := by
  refine PE.imp (t := tCB r (tML X.K cl W c)) ?_ fun _ _ _ h => tCB_ok hf h
  first
    | exact pe_callB hr hg hm hv ha hn hdb he hpl
    | exact pe_callB hr hg hm hv ha
theorem pm_t {T : String} {x : Str} {r : List V → Hp → VK → Prop} {f : List A → Store → Res} {c : CA} {e : Expr} {es : List Expr} {p pos : Pos} (hr : CallR X (.type T) r) (hf : CaOk X.K cl r f) (hm : X.mg x = none) (hv : bootBuiltins x = some (.type T)) (ha : PA X (e :: es) (tML X.K cl W c)) (hg : Gl X x := by rfl)
    (hn : x ≠ "__name__" := by decide) (hdb : (x == ("__debug__" : Str)) = false := by decide) (he : starEach (e :: es) X.env = (false, eval e X.env) :: starEach es X.env := by rfl) (hpl : (backTo pos (starEach es X.env)).any (·.1) = false := by rfl) :
    PE X (.Call (.Name x p) (e :: es) [] pos) (tM X.K cl W (cB1 f c)) := by
  refine PE.imp (t := tCB r (tML X.K cl W c)) ?_ fun _ _ _ h => tCB_ok hf h
  first
    | exact pe_callTy hr hg hm hv ha hn hdb he hpl
    | exact pe_callTy hr hg hm hv ha
end
end T3
namespace T3
open PySem PySem.Spec PyProof.Rows L2
noncomputable def intsOf : List D → Option (List Int)
  | [] => some []
  | .int i :: r => (intsOf r).map (i :: ·)
  | _ => none
noncomputable def boolsOf : List D → Option (List Bool)
  | [] => some []
  | .bl i :: r => (boolsOf r).map (i :: ·)
  | _ => none
noncomputable def strsOf : List D → Option (List Str)
  | [] => some []
  | .str i :: r => (strsOf r).map (i :: ·)
  | _ => none
section
variable {K : PySem.W.Frag} {cl : ClT} {N : Addr → Prop} {B : Addr → Prop} {H : Hp} {m : List Addr} {S : Store}
theorem intsOf_ok : ∀ {vs : List V} {ds : List D} {is : List Int}, RepL K cl N H vs ds → intsOf ds = some is → vs = is.map V.int
  | _, _, _, .nil, h => by cases h; rfl
  | _, _, _, .cons h1 r, h => by
    cases h1 <;> simp only [intsOf, Option.map_eq_some_iff, reduceCtorEq] at h
    obtain ⟨a, h, rfl⟩ := h
    rw [intsOf_ok r h]
    rfl
theorem boolsOf_ok : ∀ {vs : List V} {ds : List D} {is : List Bool}, RepL K cl N H vs ds → boolsOf ds = some is → vs = is.map V.bl
  | _, _, _, .nil, h => by cases h; rfl
  | _, _, _, .cons h1 r, h => by
    cases h1 <;> simp only [boolsOf, Option.map_eq_some_iff, reduceCtorEq] at h
    obtain ⟨a, h, rfl⟩ := h
    rw [boolsOf_ok r h]
    rfl
theorem strsOf_ok : ∀ {vs : List V} {ds : List D} {is : List Str}, RepL K cl N H vs ds → strsOf ds = some is → vs = is.map V.str
  | _, _, _, .nil, h => by cases h; rfl
  | _, _, _, .cons h1 r, h => by
    cases h1 <;> simp only [strsOf, Option.map_eq_some_iff, reduceCtorEq] at h
    obtain ⟨a, h, rfl⟩ := h
    rw [strsOf_ok r h]
    rfl
theorem RepL.ints : ∀ is : List Int, RepL K cl N H (is.map V.int) (is.map D.int)
  | [] => .nil
  | i :: r => .cons (.int i) (RepL.ints r)
end
noncomputable def fLen : List A → Store → Res
  | [.val (.str s)], S => if szOk s.length then .ok (.val (.int s.length)) S else .bad
  | [.val (.tup ds)], S => .ok (.val (.int ds.length)) S
  | [x], S => (match asL S x with
    | some ds => .ok (.val (.int ds.length)) S
    | none => .bad)
  | _, _ => .bad
noncomputable def fTuple : List A → Store → Res
  | [.val (.tup ds)], S => .ok (.val (.tup ds)) S
  | [x], S => (match asL S x with
    | some ds => .ok (.val (.tup ds)) S
    | none => .bad)
  | _, _ => .bad
noncomputable def fList (fr : Bool) : List A → Store → Res
  | [.val (.tup ds)], S => mkL fr ds S
  | [x], S => (match asL S x with
    | some ds => mkL fr ds S
    | none => .bad)
  | _, _ => .bad
noncomputable def fAll : List A → Store → Res
  | [x], S => (match asL S x with
    | some ds => (match boolsOf ds with
      | some bs => .ok (.val (.bl (bs.all id))) S
      | none => .bad)
    | none => .bad)
  | _, _ => .bad
noncomputable def fAny : List A → Store → Res
  | [x], S => (match asL S x with
    | some ds => (match boolsOf ds with
      | some bs => .ok (.val (.bl (bs.any id))) S
      | none => .bad)
    | none => .bad)
  | _, _ => .bad
noncomputable def fStr : List A → Store → Res
  | [.val (.int i)], S => if decide (i.natAbs.log2 < 1920) then .ok (.val (.str (toString i : String))) S else .bad
  | [.val (.str s)], S => .ok (.val (.str s)) S
  | _, _ => .bad
noncomputable def fInt : List A → Store → Res
  | [.val (.int i)], S => .ok (.val (.int i)) S
  | [.val (.bl b)], S => .ok (.val (.int (if b then 1 else 0))) S
  | [.val (.str s)], S => (match PySem.intText? s with
    | some n => if decide (s.length ≤ 640) then .ok (.val (.int n)) S else .bad
    | none => .bad)
  | _, _ => .bad
noncomputable def fAbs : List A → Store → Res
  | [.val (.int i)], S => .ok (.val (.int (if i < 0 then -i else i))) S
  | _, _ => .bad
noncomputable def fMax2 : List A → Store → Res
  | [.val (.int i), .val (.int j)], S => .ok (.val (.int (if j > i then j else i))) S
  | _, _ => .bad
noncomputable def fMin2 : List A → Store → Res
  | [.val (.int i), .val (.int j)], S => .ok (.val (.int (if j < i then j else i))) S
  | _, _ => .bad
noncomputable def fDivmod : List A → Store → Res
  | [.val (.int i), .val (.int j)], S => if decide (0 < j) && decide (j < 1073741824) then .ok (.val (.tup [.int (i / j), .int (i % j)])) S else .bad
  | _, _ => .bad
noncomputable def insI (x : Int) : List Int → List Int
  | [] => [x]
  | y :: r => if x ≤ y then x :: y :: r else y :: insI x r
noncomputable def sortI : List Int → List Int
  | [] => []
  | x :: r => insI x (sortI r)
noncomputable def fSortI : List A → Store → Res
  | [x], S => (match asL S x with
    | some ds => (match intsOf ds with
      | some is => .ok (.val (.lst ((sortI is).map D.int))) S
      | none => .bad)
    | none => .bad)
  | _, _ => .bad
theorem insI_perm (x : Int) : ∀ l : List Int, (insI x l).Perm (x :: l)
  | [] => .refl _
  | y :: r => by
    unfold insI
    split
    · exact .refl _
    · exact ((insI_perm x r).cons y).trans (.swap x y r)
theorem sortI_perm : ∀ l : List Int, (sortI l).Perm l
  | [] => .refl _
  | x :: r => (insI_perm x _).trans ((sortI_perm r).cons x)
theorem insI_pw (x : Int) : ∀ {l : List Int}, l.Pairwise (· ≤ ·) → (insI x l).Pairwise (· ≤ ·)
  | [], _ => List.pairwise_singleton _ _
  | y :: r, h => by
    unfold insI
    have h' := List.pairwise_cons.mp h
    split
    · rename_i hxy
      refine List.pairwise_cons.mpr ⟨fun z hz => ?_, h⟩
      rcases List.mem_cons.mp hz with e | hz
      · rw [e]; exact hxy
      · exact Int.le_trans hxy (h'.1 z hz)
    · rename_i hxy
      refine List.pairwise_cons.mpr ⟨fun z hz => ?_, insI_pw x h'.2⟩
      rcases List.mem_cons.mp ((insI_perm x r).mem_iff.mp hz) with e | hz
      · omega
      · exact h'.1 z hz
theorem sortI_pw : ∀ l : List Int, (sortI l).Pairwise (· ≤ ·)
  | [] => .nil
  | x :: r => insI_pw x (sortI_pw r)
theorem sort_one {l k : List Int} (h : l.Perm k) (h1 : l.Pairwise (· ≤ ·)) (h2 : k.Pairwise (· ≤ ·)) : l = k := h.eq_of_pairwise (fun a b _ _ x y => Int.le_antisymm x y) h1 h2
section
variable {X : Cx} {cl : ClT}
theorem one_arg {K : PySem.W.Frag} {N : Addr → Prop} {H : Hp} {m : List Addr} {vs : List V} {x : A} (r : RepAs K cl N H m vs [x]) : ∃ v, vs = [v] ∧ RepA K cl N H m v x := by
  cases r with
  | cons h q => cases q; exact ⟨_, rfl, h⟩
theorem two_args {K : PySem.W.Frag} {N : Addr → Prop} {H : Hp} {m : List Addr} {vs : List V} {x y : A} (r : RepAs K cl N H m vs [x, y]) : ∃ v w, vs = [v, w] ∧ RepA K cl N H m v x ∧ RepA K cl N H m w y := by
  cases r with
  | cons h q =>
    obtain ⟨w, rfl, h2⟩ := one_arg q
    exact ⟨_, w, rfl, h, h2⟩
theorem ok_len : CaOk X.K cl (fun xs H Q => ∃ x n, xs = [x] ∧ LenV X.K x H n ∧ Q (.int n) H) fLen := by
  intro B H m S σ W vs xs Q o r h
  unfold fLen at h
  split at h
  · rename_i s
    obtain ⟨v, rfl, r1⟩ := one_arg r
    cases r1
    split at h
    · rename_i hz
      exact ⟨_, s.length, rfl, ⟨szOk_line hz, rfl⟩, h.here o (.int _)⟩
    · exact h.elim
  · rename_i ds
    obtain ⟨v, rfl, r1⟩ := one_arg r
    obtain ⟨a, xs, rfl, q, rl⟩ := asT_ok (x := .val (.tup ds)) r1 rfl
    exact ⟨_, xs.length, rfl, .inr ⟨xs, q, rfl⟩, by rw [rl.length]; exact h.here o (.int _)⟩
  · obtain ⟨v, rfl, r1⟩ := one_arg r
    split at h
    · rename_i ds hd
      obtain ⟨a, xs, rfl, q, rl⟩ := asL_ok o r1 hd
      exact ⟨_, xs.length, rfl, .inl ⟨xs, q, rfl⟩, by rw [rl.length]; exact h.here o (.int _)⟩
    · exact h.elim
  · exact h.elim
theorem ok_tuple : CaOk X.K cl (fun xs H Q => ∃ p ys, xs = [.ref p] ∧ ((SqL X.K H p ys ∧ NewT ys H Q) ∨ (SqT X.K H p ys ∧ Q (.ref p) H))) fTuple := by
  intro B H m S σ W vs xs Q o r h
  unfold fTuple at h
  split at h
  · rename_i ds
    obtain ⟨v, rfl, r1⟩ := one_arg r
    obtain ⟨a, xs, rfl, q, rl⟩ := asT_ok (x := .val (.tup ds)) r1 rfl
    exact ⟨a, xs, rfl, .inr ⟨q, h.here o r1⟩⟩
  · obtain ⟨v, rfl, r1⟩ := one_arg r
    split at h
    · rename_i ds hd
      obtain ⟨a, xs, rfl, q, rl⟩ := asL_ok o r1 hd
      exact ⟨a, xs, rfl, .inl ⟨q, mkT_ok o rl h⟩⟩
    · exact h.elim
  · exact h.elim
theorem ok_list (fr : Bool) : CaOk X.K cl (fun xs H Q => ∃ p ys, xs = [.ref p] ∧ (SqL X.K H p ys ∨ SqT X.K H p ys) ∧ ∀ l, H l = none → Q (.ref l) (upd H l (.lst ys))) (fList fr) := by
  intro B H m S σ W vs xs Q o r h
  unfold fList at h
  split at h
  · rename_i ds
    obtain ⟨v, rfl, r1⟩ := one_arg r
    obtain ⟨a, xs, rfl, q, rl⟩ := asT_ok (x := .val (.tup ds)) r1 rfl
    exact ⟨a, xs, rfl, .inr q, fun l hl => mkL_ok o rl hl h⟩
  · obtain ⟨v, rfl, r1⟩ := one_arg r
    split at h
    · rename_i ds hd
      obtain ⟨a, xs, rfl, q, rl⟩ := asL_ok o r1 hd
      exact ⟨a, xs, rfl, .inl q, fun l hl => mkL_ok o rl hl h⟩
    · exact h.elim
  · exact h.elim
theorem ok_all : CaOk X.K cl (rAll X.K) fAll := by
  intro B H m S σ W vs xs Q o r h
  unfold fAll at h
  split at h
  · obtain ⟨v, rfl, r1⟩ := one_arg r
    split at h
    · rename_i ds hd
      split at h
      · rename_i bs hb
        obtain ⟨a, xs, rfl, q, rl⟩ := asL_ok o r1 hd
        exact ⟨a, bs, rfl, boolsOf_ok rl hb ▸ q, h.here o (.bl _)⟩
      · exact h.elim
    · exact h.elim
  · exact h.elim
theorem ok_sortI : CaOk X.K cl (rSortedI X.K) fSortI := by
  intro B H m S σ W vs xs Q o r h
  unfold fSortI at h
  split at h
  · obtain ⟨v, rfl, r1⟩ := one_arg r
    split at h
    · rename_i ds hd
      split at h
      · rename_i bs hb
        obtain ⟨a, xs, rfl, q, rl⟩ := asL_ok o r1 hd
        refine ⟨a, bs, rfl, intsOf_ok rl hb ▸ q, fun ns p hp hw hn => ?_⟩
        have e : ns = sortI bs := sort_one (hp.trans (sortI_perm bs).symm) hw (sortI_pw bs)
        subst e
        exact mkL_ok (fr := true) o (RepL.ints _) hn h
      · exact h.elim
    · exact h.elim
  · exact h.elim
theorem call_strM : CallR X (.type "str") (fun xs H Q => (∃ i, xs = [.int i] ∧ i.natAbs.log2 < 1920 ∧ Q (.str (toString i : String)) H) ∨ ∃ a, xs = [.str a] ∧ Q (.str a) H) := CallR.or call_str_int SkE.call_str_str
theorem ok_str : CaOk X.K cl (fun xs H Q => (∃ i, xs = [.int i] ∧ i.natAbs.log2 < 1920 ∧ Q (.str (toString i : String)) H) ∨ ∃ a, xs = [.str a] ∧ Q (.str a) H) fStr := by
  intro B H m S σ W vs xs Q o r h
  unfold fStr at h
  split at h
  · rename_i i
    obtain ⟨v, rfl, r1⟩ := one_arg r
    cases r1
    split at h
    · rename_i hz
      exact .inl ⟨i, rfl, of_decide_eq_true hz, h.here o (.str _)⟩
    · exact h.elim
  · rename_i s
    obtain ⟨v, rfl, r1⟩ := one_arg r
    cases r1
    exact .inr ⟨s, rfl, h.here o (.str _)⟩
  · exact h.elim
noncomputable def rIntM : List V → Hp → VK → Prop := fun xs H Q => ((∃ i, xs = [.int i] ∧ Q (.int i) H) ∨ ∃ k, xs = [.bl k] ∧ Q (.int (if k then 1 else 0)) H) ∨ ∃ a n, xs = [.str a] ∧ PySem.intText? a = some n ∧ a.length ≤ 640 ∧ Q (.int n) H
theorem call_intM : CallR X (.type "int") rIntM := CallR.or call_int1 call_int_str
theorem ok_int : CaOk X.K cl rIntM fInt := by
  intro B H m S σ W vs xs Q o r h
  unfold fInt at h
  split at h
  · rename_i i
    obtain ⟨v, rfl, r1⟩ := one_arg r
    cases r1
    exact .inl (.inl ⟨i, rfl, h.here o (.int _)⟩)
  · rename_i b
    obtain ⟨v, rfl, r1⟩ := one_arg r
    cases r1
    exact .inl (.inr ⟨b, rfl, h.here o (.int _)⟩)
  · rename_i s
    obtain ⟨v, rfl, r1⟩ := one_arg r
    cases r1
    split at h
    · rename_i n hn
      split at h
      · rename_i hz
        exact .inr ⟨s, n, rfl, hn, of_decide_eq_true hz, h.here o (.int _)⟩
      · exact h.elim
    · exact h.elim
  · exact h.elim
theorem ok_abs : CaOk X.K cl (fun xs H Q => ∃ i, xs = [.int i] ∧ Q (.int (if i < 0 then -i else i)) H) fAbs := by
  intro B H m S σ W vs xs Q o r h
  unfold fAbs at h
  split at h
  · rename_i i
    obtain ⟨v, rfl, r1⟩ := one_arg r
    cases r1
    exact ⟨i, rfl, h.here o (.int _)⟩
  · exact h.elim
theorem ok_max2 : CaOk X.K cl (fun xs H Q => ∃ i j, xs = [.int i, .int j] ∧ Q (.int (if j > i then j else i)) H) fMax2 := by
  intro B H m S σ W vs xs Q o r h
  unfold fMax2 at h
  split at h
  · rename_i i j
    obtain ⟨v, w, rfl, r1, r2⟩ := two_args r
    cases r1; cases r2
    exact ⟨i, j, rfl, h.here o (.int _)⟩
  · exact h.elim
theorem ok_min2 : CaOk X.K cl (fun xs H Q => ∃ i j, xs = [.int i, .int j] ∧ Q (.int (if j < i then j else i)) H) fMin2 := by
  intro B H m S σ W vs xs Q o r h
  unfold fMin2 at h
  split at h
  · rename_i i j
    obtain ⟨v, w, rfl, r1, r2⟩ := two_args r
    cases r1; cases r2
    exact ⟨i, j, rfl, h.here o (.int _)⟩
  · exact h.elim
theorem ok_divmod : CaOk X.K cl (fun xs H Q => ∃ i j, xs = [.int i, .int j] ∧ CDiv i j ∧ NewT [.int (i / j), .int (i % j)] H Q) fDivmod := by
  intro B H m S σ W vs xs Q o r h
  unfold fDivmod at h
  split at h
  · rename_i i j
    obtain ⟨v, w, rfl, r1, r2⟩ := two_args r
    cases r1; cases r2
    split at h
    · rename_i hz
      simp only [Bool.and_eq_true, decide_eq_true_eq] at hz
      exact ⟨i, j, rfl, hz, mkT_ok o (.cons (.int _) (.cons (.int _) .nil)) h⟩
    · exact h.elim
  · exact h.elim
end
end T3
namespace T3
open PySem PySem.Spec PyProof.Rows L2
noncomputable def flatD : D → Bool
  | .non | .bl _ | .int _ | .str _ => true
  | _ => false
noncomputable def inD (x : D) (ds : List D) : Bool := ds.any fun y => dEq y x
noncomputable def fInB (x y : A) (S : Store) : Option Bool := match x, y with
  | .val (.str a), .val (.str b) => if a.cps.toList.length = 1 then some (decide (a.cps.toList.getD 0 0 ∈ b.cps.toList)) else none
  | .val d, y => match (match y with
      | .val (.tup ds) => some ds
      | y => asL S y) with
    | some ds => if flatD d && ds.all flatD then some (inD d ds) else (match asL S y with
      | some ds => if shp d && dOkL ds && decide (dDepL ds ≤ 50) then some (inD d ds) else none
      | none => none)
    | none => none
  | _, _ => none
noncomputable def fIn (x y : A) (S : Store) : Res := match fInB x y S with
  | some b => .ok (.val (.bl b)) S
  | none => .bad
noncomputable def fNotIn (x y : A) (S : Store) : Res := match fInB x y S with
  | some b => .ok (.val (.bl (!b))) S
  | none => .bad
section
variable {X : Cx} {cl : ClT} {W : WX}
theorem flat_V {K : PySem.W.Frag} {N : Addr → Prop} {H : Hp} {v : V} {d : D} (r : Rep K cl N H v d) (h : flatD d = true) : flatV v = true := by
  cases r <;> first | rfl | cases h
theorem flats_V {K : PySem.W.Frag} {N : Addr → Prop} {H : Hp} : ∀ {vs : List V} {ds : List D}, RepL K cl N H vs ds → ds.all flatD = true → vs.all flatV = true
  | _, _, .nil, _ => rfl
  | _, _, .cons h r, hz => by
    simp only [List.all_cons, Bool.and_eq_true] at hz ⊢
    exact ⟨flat_V h hz.1, flats_V r hz.2⟩
theorem eqV_dEq {K : PySem.W.Frag} {N : Addr → Prop} {H : Hp} {v w : V} {d e : D} (r : Rep K cl N H v d) (q : Rep K cl N H w e) (hd : flatD d = true) (he : flatD e = true) : eqV v w = dEq d e := by
  cases r <;> first | (cases q <;> first | rfl | cases he) | cases hd
theorem inV_inD {K : PySem.W.Frag} {N : Addr → Prop} {H : Hp} {v : V} {d : D} (r : Rep K cl N H v d) (hd : flatD d = true) : ∀ {vs : List V} {ds : List D}, RepL K cl N H vs ds → ds.all flatD = true → inV v vs = inD d ds
  | _, _, .nil, _ => rfl
  | _, _, .cons h q, hz => by
    simp only [List.all_cons, Bool.and_eq_true] at hz
    unfold inV inD
    rw [List.any_cons, List.any_cons, eqV_dEq h r hz.1 hd]
    have := inV_inD r hd q hz.2
    unfold inV inD at this
    rw [this]
theorem any_toP {d : D} (hd : dOk d = true) : ∀ {ds : List D}, dOkL ds = true → ((toPL ds).any fun z => PyData.eqv z (toP d)) = inD d ds
  | [], _ => rfl
  | e :: ds, h => by
    simp only [dOkL, Bool.and_eq_true] at h
    unfold inD
    show (PyData.eqv (toP e) (toP d) || (toPL ds).any _) = _
    rw [dEq_toP h.1 hd, any_toP hd h.2]
    rfl
noncomputable def rInM (K : PySem.W.Frag) (neg : Bool) : R2 := fun x y H Q => (∃ (c : Nat) (z : Str), x = .str ⟨#[c]⟩ ∧ y = .str z ∧ Q (.bl (if neg then !decide (c ∈ z.cps.toList) else decide (c ∈ z.cps.toList))) H) ∨
  (rIn K neg x y H Q ∨ ∃ d ds, Dp K H x d ∧ Dp K H y (.list ds) ∧ SeqAt.shaped d = true ∧ SeqAt.shaped (.list ds) = true ∧ Q (.bl (if neg then !ds.any (fun z => PyData.eqv z d) else ds.any fun z => PyData.eqv z d)) H)
theorem op_inM (hu : X.A.units + 65 < cLine) : OpR X (compareOp .In) (rInM X.K false) := by
  refine OpR.or ?_ (OpR.or op_in_seq ?_)
  · exact fun pins s σ H x y v u Q I rx ry q => op_in_sign pins s σ H x y v u Q I rx ry q
  · exact fun pins s σ H x y v u Q I rx ry q => op_inD hu pins s σ H x y v u Q I rx ry q
theorem op_notInM (hu : X.A.units + 65 < cLine) : OpR X (compareOp .NotIn) (rInM X.K true) := by
  refine OpR.or ?_ (OpR.or op_notIn_seq ?_)
  · exact fun pins s σ H x y v u Q I rx ry q => op_notIn_sign pins s σ H x y v u Q I rx ry q
  · exact fun pins s σ H x y v u Q I rx ry q => op_notInD hu pins s σ H x y v u Q I rx ry q
theorem asL_cur {S : Store} {y : A} {ds : List D} (h : asL S y = some ds) : ∃ e, cur S y = some e ∧ toP e = .list (toPL ds) ∧ (dOkL ds = true → dOk e = true) := by
  cases y with
  | ref i =>
    simp only [asL] at h
    split at h <;> cases h
    rename_i hs
    exact ⟨.lst ds, by simp only [cur, hs], rfl, fun q => q⟩
  | val d =>
    cases d <;> simp only [asL] at h <;> cases h
    · exact ⟨_, rfl, rfl, fun q => q⟩
    · exact ⟨_, rfl, rfl, fun q => q⟩
theorem in_ok {neg : Bool} {B : Addr → Prop} {H : Hp} {m : List Addr} {S : Store} {v w : V} {x y : A} {b : Bool} {Q : VK} (o : Ok X.K cl B H m S) (rx : RepA X.K cl (NN B m) H m v x) (ry : RepA X.K cl (NN B m) H m w y) (h : fInB x y S = some b) (q : Q (.bl (if neg then !b else b)) H) : rInM X.K neg v w H Q := by
  unfold fInB at h
  split at h
  · rename_i a c
    cases rx; cases ry
    split at h
    · rename_i hl
      cases h
      obtain ⟨k, hk⟩ := List.length_eq_one_iff.mp hl
      refine .inl ⟨k, c, ?_, rfl, ?_⟩
      · have : a = ⟨#[k]⟩ := by
          obtain ⟨arr⟩ := a
          have : arr.toList = [k] := hk
          congr 1
          exact Array.toList_inj.mp this
        rw [this]
      · rw [hk] at q
        exact q
    · cases h
  · rename_i d _
    split at h
    rotate_left
    · cases h
    rename_i ds hd
    have view : ∃ p vs, w = .ref p ∧ (SqL X.K H p vs ∨ SqT X.K H p vs) ∧ RepL X.K cl (NN B m) H vs ds := by
      split at hd
      · cases hd
        obtain ⟨a, vs, rfl, e, r⟩ := asT_ok (x := .val (.tup ds)) ry rfl
        exact ⟨a, vs, rfl, .inr e, r⟩
      · obtain ⟨a, vs, rfl, e, r⟩ := asL_ok o ry hd
        exact ⟨a, vs, rfl, .inl e, r⟩
    split at h
    · rename_i hz
      cases h
      simp only [Bool.and_eq_true] at hz
      obtain ⟨p, vs, rfl, e, r⟩ := view
      refine .inr (.inl ⟨p, vs, rfl, e, flat_V rx hz.1, flats_V r hz.2, ?_⟩)
      rw [inV_inD rx hz.1 r hz.2]
      exact q
    · split at h
      · rename_i es he
        split at h
        · rename_i hz
          cases h
          simp only [Bool.and_eq_true, decide_eq_true_eq] at hz
          obtain ⟨e, h1, h2, h3⟩ := asL_cur he
          have rd : Rep X.K cl N0 H v d := Rep.weak (fun _ z => z.elim) rx
          refine .inr (.inr ⟨toP d, toPL es, Dp.of rd (shp_ok hz.1.1), ?_, shp_shaped hz.1.1, ?_, ?_⟩)
          · rw [← h2]; exact Dp.of (cur_ok o ry h1) (h3 hz.1.2)
          · have := canLayL_toP hz.1.2
            have hdp := depthL_toP hz.1.2
            simp only [SeqAt.shaped, Bool.and_eq_true, decide_eq_true_eq]
            exact ⟨this, by show PyData.depthAll (toPL es) + 1 ≤ 64; omega⟩
          · rw [any_toP (shp_ok hz.1.1) hz.1.2]
            exact q
        · cases h
      · cases h
  · cases h
theorem ok_in : OpOk X.K cl (rInM X.K false) fIn := by
  intro B H m S σ W v w x y Q o rx ry h
  unfold fIn at h
  split at h
  · rename_i b hb
    exact in_ok (neg := false) o rx ry hb (h.here o (.bl _))
  · exact h.elim
theorem ok_notIn : OpOk X.K cl (rInM X.K true) fNotIn := by
  intro B H m S σ W v w x y Q o rx ry h
  unfold fNotIn at h
  split at h
  · rename_i b hb
    exact in_ok (neg := true) o rx ry hb (h.here o (.bl _))
  · exact h.elim
end
end T3
namespace T3
open PySem PySem.Spec PyProof.Rows L2
noncomputable def tyL (x : A) (S : Store) : Bool := (asL S x).isSome
noncomputable def tyS : A → Store → Bool
  | .val (.str _), _ => true
  | _, _ => false
noncomputable def cMt (ty : A → Store → Bool) (f : A → List A → Store → Res) (c : CE) (ca : CA) : CE := fun ρ S => (c ρ S).bind fun x S1 => if ty x S1 then (ca ρ S1).bind fun xs S2 => f x xs S2 else .bad
section
variable {X : Cx} {cl : ClT} {W : WX}
noncomputable def TyOk (K : PySem.W.Frag) (cl : ClT) (T : String) (ty : A → Store → Bool) : Prop := ∀ {B : Addr → Prop} {H : Hp} {m : List Addr} {S : Store} {v : V} {x : A}, Ok K cl B H m S → RepA K cl (NN B m) H m v x → ty x S = true → tyV K T v H
theorem ty_list {K : PySem.W.Frag} : TyOk K cl "list" tyL := by
  intro B H m S v x o r h
  unfold tyL at h
  cases e : asL S x with
  | none => rw [e] at h; cases h
  | some ds =>
    obtain ⟨a, vs, rfl, q, _⟩ := asL_ok o r e
    exact .inl ⟨rfl, vs, q⟩
theorem ty_str {K : PySem.W.Frag} : TyOk K cl "str" tyS := by
  intro B H m S v x o r h
  cases x with
  | ref i => cases h
  | val d =>
    cases d <;> first | cases h | skip
    cases r
    rfl
theorem tBM_ok {T : String} {ty : A → Store → Bool} {r : V → List V → Hp → VK → Prop} {f : A → List A → Store → Res} {c : CE} {ca : CA} (hty : TyOk X.K cl T ty) (hf : MtOk X.K cl r f) {σ : L2.St} {H : Hp} {Q : VK} (h : tM X.K cl W (cMt ty f c ca) σ H Q) : tBM X.K T r (tM X.K cl W c) (tML X.K cl W ca) σ H Q := by
  obtain ⟨B, m, S, ρ, o, e, fin⟩ := h
  refine ⟨B, m, S, ρ, o, e, Fin.bind fin fun x S1 v H1 m1 s1 o1 r1 f1 => ?_⟩
  split at f1
  · rename_i ht
    refine ⟨hty o1 r1 ht, B, m1, S1, ρ, o1, s1.env o e, FinL.bind f1 fun xs S2 vs H2 m2 s2 o2 r2 f2 => ?_⟩
    exact hf o2 (s2.rep o1 r1) r2 f2
  · exact f1.elim
noncomputable def fAppend (x : A) (xs : List A) (S : Store) : Res := match x, xs with
  | .ref i, [.val d] => (match S[i]? with
    | some (.lst ds) => if szOk ds.length then .ok (.val .non) (S.set i (.lst (ds ++ [d]))) else .bad
    | _ => .bad)
  | _, _ => .bad
theorem ok_append : MtOk X.K cl rAppend fAppend := by
  intro B H m S σ W v x vs xs Q o rx rs h
  unfold fAppend at h
  split at h
  · rename_i i d
    obtain ⟨w, rfl, r1⟩ := one_arg rs
    split at h
    · rename_i ds hs
      split at h
      · rename_i hz
        obtain ⟨a, ha, rfl⟩ := rx
        obtain ⟨ys, e, rl⟩ := o.obj i a _ ha hs
        obtain ⟨st, ok⟩ := Ok.write X.K o (u := .lst (ds ++ [d])) (w := .lst (ys ++ [w])) ha fun H' hb hw => ⟨_, hw, (rl.append (.cons r1 .nil)).mono (kp_at (.inr (List.mem_of_getElem? ha)) hb)⟩
        exact ⟨a, ys, w, rfl, rfl, e, by rw [rl.length]; exact szOk_lt hz, h _ _ m st ok .non⟩
      · exact h.elim
    · exact h.elim
  · exact h.elim
theorem pm_append {o e : Expr} {c ce : CE} {apos cpos : Pos} (ho : PE X o (tM X.K cl W c)) (ha : PE X e (tM X.K cl W ce)) (hs1 : starEach [e] X.env = (false, eval e X.env) :: starEach [] X.env := by rfl)
    (hbase : attributeBase o "append" X.env (eval o X.env) = eval o X.env := by rfl) (hfew : ((backTo cpos (starEach [e] X.env)).all (fun x => !x.1) && (backToKw cpos (keywordEach [] X.env)).all (fun x => x.1.isSome)
      && decide ([e].length + ([] : List Keyword).length + (if ([] : List Keyword).isEmpty then 0 else 1) < 30)) = true := by rfl) (hline : (apos.endLine == cpos.line) = true := by rfl) (hplain : (backTo cpos (starEach [] X.env)).any (·.1) = false := by rfl) :
    PE X (.Call (.Attribute o "append" apos) [e] [] cpos) (tM X.K cl W (cMt tyL fAppend c (cCons ce cNil))) :=
  PE.imp (pe_bm PySem.F.plainAttrs_list PySem.F.slot_list_append PySem.F.type_list_append mt_append ho (pm_cons ha pm_nil hs1) hbase hfew hline hs1 hplain) fun _ _ _ h => tBM_ok ty_list ok_append h
theorem RepL.erase {K : PySem.W.Frag} {N : Addr → Prop} {H : Hp} : ∀ {vs : List V} {ds : List D} (k : Nat), RepL K cl N H vs ds → RepL K cl N H (vs.eraseIdx k) (ds.eraseIdx k)
  | _, _, _, .nil => .nil
  | _, _, 0, .cons _ r => r
  | _, _, k + 1, .cons h r => .cons h (r.erase k)
/-- sep.join(texts) -/
noncomputable def joinN (ys : List Str) : Nat := (ys.map (·.length)).sum
noncomputable def fJoin (x : A) (xs : List A) (S : Store) : Res := match x, xs with
  | .val (.str s), [y] => (match (match y with
      | .val (.tup ds) => some ds
      | y => asL S y) with
    | some ds => (match strsOf ds with
      | some ys => if szOk (joinN ys + ys.length * s.length) then .ok (.val (.str (Txt.join s ys))) S else .bad
      | none => .bad)
    | none => .bad)
  | _, _ => .bad
theorem ok_join : MtOk X.K cl (fun x xs H Q => ∃ a p, ∃ ys : List Str, x = .str a ∧ xs = [.ref p] ∧ (SqL X.K H p (ys.map V.str) ∨ SqT X.K H p (ys.map V.str)) ∧ (ys.map (·.length)).sum + ys.length * a.length ≤ 16777216 ∧ Q (.str (Txt.join a ys)) H) fJoin := by
  intro B H m S σ W v x vs xs Q o rx rs h
  unfold fJoin at h
  split at h
  · rename_i s y
    cases rx
    obtain ⟨w, rfl, r1⟩ := one_arg rs
    split at h
    rotate_left
    · exact h.elim
    rename_i ds hd
    have view : ∃ p vs, w = .ref p ∧ (SqL X.K H p vs ∨ SqT X.K H p vs) ∧ RepL X.K cl (NN B m) H vs ds := by
      split at hd
      · cases hd
        obtain ⟨a, vs, rfl, e, r⟩ := asT_ok (x := .val (.tup ds)) r1 rfl
        exact ⟨a, vs, rfl, .inr e, r⟩
      · obtain ⟨a, vs, rfl, e, r⟩ := asL_ok o r1 hd
        exact ⟨a, vs, rfl, .inl e, r⟩
    obtain ⟨p, us, rfl, hq, rl⟩ := view
    split at h
    · rename_i ys hy
      split at h
      · rename_i hz
        have := strsOf_ok rl hy
        subst this
        exact ⟨s, p, ys, rfl, rfl, hq, Nat.le_trans (of_decide_eq_true hz) (by decide), h.here o (.str _)⟩
      · exact h.elim
    · exact h.elim
  · exact h.elim
theorem pm_join {o e : Expr} {c ce : CE} {apos cpos : Pos} (ho : PE X o (tM X.K cl W c)) (ha : PE X e (tM X.K cl W ce)) (hs1 : starEach [e] X.env = (false, eval e X.env) :: starEach [] X.env := by rfl)
    (hbase : attributeBase o "join" X.env (eval o X.env) = eval o X.env := by rfl) (hfew : ((backTo cpos (starEach [e] X.env)).all (fun x => !x.1) && (backToKw cpos (keywordEach [] X.env)).all (fun x => x.1.isSome)
      && decide ([e].length + ([] : List Keyword).length + (if ([] : List Keyword).isEmpty then 0 else 1) < 30)) = true := by rfl) (hline : (apos.endLine == cpos.line) = true := by rfl) (hplain : (backTo cpos (starEach [] X.env)).any (·.1) = false := by rfl) :
    PE X (.Call (.Attribute o "join" apos) [e] [] cpos) (tM X.K cl W (cMt tyS fJoin c (cCons ce cNil))) :=
  PE.imp (pe_bm PySem.F.plainAttrs_str PySem.F.slot_str_join PySem.F.type_str_join mt_join ho (pm_cons ha pm_nil hs1) hbase hfew hline hs1 hplain) fun _ _ _ h => tBM_ok ty_str ok_join h
end
end T3
namespace T3
open PySem PySem.Spec PyProof.Rows L2
mutual
/-- a bound for the text's length -/
noncomputable def rsz : D → Nat
  | .str s => 10 * s.length + 2
  | .tup xs => rszL xs + 4
  | .lst xs => rszL xs + 4
  | .ro xs => rszL xs + 4
  | _ => 2000
noncomputable def rszL : List D → Nat
  | [] => 0
  | x :: r => rsz x + 2 + rszL r
end
mutual
/-- ints that can be written -/
noncomputable def shw : D → Bool
  | .int i => decide (i.natAbs.log2 < 1920)
  | .tup xs => shwL xs
  | .lst xs => shwL xs
  | .ro xs => shwL xs
  | _ => true
noncomputable def shwL : List D → Bool
  | [] => true
  | x :: r => shw x && shwL r
end
mutual
theorem shw_toP : ∀ {d : D}, dOk d = true → shw d = true → PyData.showable (toP d) = true
  | .non, _, _ => rfl
  | .bl b, _, _ => rfl
  | .int b, _, h => h
  | .str b, _, _ => rfl
  | .tup xs, h, q => shwL_toP (ds := xs) h q
  | .lst xs, h, q => shwL_toP (ds := xs) h q
  | .ro xs, h, q => shwL_toP (ds := xs) h q
  | .dic _ _, h, _ => by cases h
  | .ins _ _ _, h, _ => by cases h
theorem shwL_toP : ∀ {ds : List D}, dOkL ds = true → shwL ds = true → PyData.showableAll (toPL ds) = true
  | [], _, _ => rfl
  | d :: ds, h, q => by
    simp only [dOkL, shwL, Bool.and_eq_true] at h q
    show (PyData.showable (toP d) && PyData.showableAll (toPL ds)) = true
    rw [shw_toP h.1 q.1, shwL_toP h.2 q.2]
    rfl
end
mutual
theorem noDict_toP : ∀ {d : D}, dOk d = true → PyData.hasDict (toP d) = false
  | .non, _ => rfl
  | .bl b, _ => rfl
  | .int b, _ => rfl
  | .str b, _ => rfl
  | .tup xs, h => noDictL_toP (ds := xs) h
  | .lst xs, h => noDictL_toP (ds := xs) h
  | .ro xs, h => noDictL_toP (ds := xs) h
  | .dic _ _, h => by cases h
  | .ins _ _ _, h => by cases h
theorem noDictL_toP : ∀ {ds : List D}, dOkL ds = true → PyData.hasDictAll (toPL ds) = false
  | [], _ => rfl
  | d :: ds, h => by
    simp only [dOkL, Bool.and_eq_true] at h
    show (PyData.hasDict (toP d) || PyData.hasDictAll (toPL ds)) = false
    rw [noDict_toP h.1, noDictL_toP h.2]
    rfl
end
theorem strLen_app (a b : Str) : (a ++ b).length = a.length + b.length := strLen_append a b
noncomputable def sumL : List Str → Nat
  | [] => 0
  | t :: r => t.length + 2 + sumL r
theorem textFrom_le : ∀ (ts : List Str) (k : Nat) (acc : Str), (textFrom k acc ts).length ≤ acc.length + sumL ts
  | [], k, acc => Nat.le_refl _
  | t :: r, k, acc => by
    have ih := textFrom_le r (k + 1) (acc ++ (if k > 0 then ", " else "" : String) ++ t)
    have e : (acc ++ (if k > 0 then ", " else "" : String) ++ t).length ≤ acc.length + 2 + t.length := by
      rw [strLen_app, strLen_app]
      by_cases hk : k > 0
      · rw [if_pos hk]; exact Nat.le_refl _
      · rw [if_neg hk]
        have : (("" : String) : Str).length = 0 := rfl
        omega
    show (textFrom (k + 1) _ r).length ≤ _
    simp only [sumL]
    omega
theorem join_le : ∀ ts : List Str, (Str.join ", " ts).length ≤ sumL ts
  | [] => Nat.le_refl _
  | [x] => by
    show x.length ≤ x.length + 2 + 0
    omega
  | x :: y :: r => by
    have ih := join_le (y :: r)
    show (x ++ ", " ++ Str.join ", " (y :: r)).length ≤ x.length + 2 + sumL (y :: r)
    rw [strLen_app, strLen_app]
    have : ((", " : String) : Str).length = 2 := rfl
    omega
theorem strOk_lt {s : Str} (h : PySem.PyData.strOk s = true) : ∀ c ∈ s.cps.toList, c < 16 ^ 8 := fun c hc => by
  unfold PySem.PyData.strOk at h
  rw [Array.all_eq_true_iff_forall_mem] at h
  have := of_decide_eq_true (h c (by simpa using hc))
  omega
mutual
theorem shown_le : ∀ {d : D}, dOk d = true → shw d = true → (PyData.shown (toP d)).length ≤ rsz d
  | .non, _, _ => by show ("None" : Str).length ≤ 2000; decide
  | .bl b, _, _ => by
    show (if b then ("True" : Str) else "False").length ≤ 2000
    cases b <;> decide
  | .int b, _, h => by
    have h1 : b.natAbs.log2 < 1920 := of_decide_eq_true h
    have h2 := int_text_length_le (by decide : 0 < 1920) h1
    show (Str.ofString (toString b)).length ≤ 2000
    rw [PySem.ofString_length]
    omega
  | .str s, h, _ => StrLaws.reprText_len s (strOk_lt h)
  | .tup xs, h, q => by
    have := shownL_le (ds := xs) h q
    show (tupleText (PyData.shownAll (toPL xs))).length ≤ rszL xs + 4
    unfold tupleText
    rw [strLen_app, strLen_app]
    have h1 := join_le (PyData.shownAll (toPL xs))
    have h2 : ((if (PyData.shownAll (toPL xs)).length == 1 then ",)" else ")" : String) : Str).length ≤ 2 := by split <;> decide
    have h3 : ("(" : Str).length = 1 := rfl
    omega
  | .lst xs, h, q => by
    have := shownL_le (ds := xs) h q
    show (listText (PyData.shownAll (toPL xs))).length ≤ rszL xs + 4
    unfold listText
    rw [strLen_app]
    have h1 := textFrom_le (PyData.shownAll (toPL xs)) 0 "["
    have h2 : (("[" : String) : Str).length = 1 := rfl
    have h3 : (("]" : String) : Str).length = 1 := rfl
    omega
  | .ro xs, h, q => by
    have := shownL_le (ds := xs) h q
    show (listText (PyData.shownAll (toPL xs))).length ≤ rszL xs + 4
    unfold listText
    rw [strLen_app]
    have h1 := textFrom_le (PyData.shownAll (toPL xs)) 0 "["
    have h2 : (("[" : String) : Str).length = 1 := rfl
    have h3 : (("]" : String) : Str).length = 1 := rfl
    omega
  | .dic _ _, h, _ => by cases h
  | .ins _ _ _, h, _ => by cases h
theorem shownL_le : ∀ {ds : List D}, dOkL ds = true → shwL ds = true → sumL (PyData.shownAll (toPL ds)) ≤ rszL ds
  | [], _, _ => Nat.le_refl _
  | d :: ds, h, q => by
    simp only [dOkL, shwL, Bool.and_eq_true] at h q
    have h1 := shown_le h.1 q.1
    have h2 := shownL_le h.2 q.2
    show (PyData.shown (toP d)).length + 2 + sumL (PyData.shownAll (toPL ds)) ≤ rsz d + 2 + rszL ds
    omega
end
noncomputable def rpOk (d : D) : Bool := shp d && shw d && szOk (rsz d)
noncomputable def rp (d : D) : Str := PyData.shown (toP d)
noncomputable def fRepr : List A → Store → Res
  | [x], S => (match cur S x with
    | some d => if rpOk d then .ok (.val (.str (rp d))) S else .bad
    | none => .bad)
  | _, _ => .bad
section
variable {X : Cx} {cl : ClT} {W : WX}
noncomputable def rRepr (K : PySem.W.Frag) : List V → Hp → VK → Prop := fun vs H Q => ∃ (v : V) (d : PyData), vs = [v] ∧ Dp K H v d ∧ SeqAt.shaped d = true ∧ d.showable = true ∧ d.hasDict = false ∧ d.shown.length ≤ sizeLine ∧ Q (.str d.shown) H
theorem cr_repr (g : X.A.guards = some []) (hu : X.A.units + 70 < cLine) : CallR X (.builtin "repr") (rRepr X.K) := by
  intro pins s σ H xs us Q I r h
  obtain ⟨v, d, rfl, hd, hs, hw, hn, hz, q⟩ := h
  cases r with
  | @cons _ u _ _ r1 r2 =>
    cases r2
    obtain ⟨as, rd⟩ := Dp.reads I d v u hd r1
    have hdep : d.depth ≤ 64 := by
      simp only [SeqAt.shaped, Bool.and_eq_true, decide_eq_true_eq] at hs
      exact hs.2
    cases hd with
    | non => cases r1; exact P.repr_of_none ⟨.str _, H, I.tok _, ⟨_, rfl⟩, q⟩
    | bl b => cases r1; exact P.repr_of_bool ⟨.str _, H, I.tok _, ⟨_, rfl⟩, q⟩
    | int i =>
      obtain ⟨t, rfl⟩ := r1
      exact P.repr_of_int (of_decide_eq_true hw) ⟨.str _, H, I.tok _, ⟨_, rfl⟩, q⟩
    | str z =>
      obtain ⟨t, rfl⟩ := r1
      exact P.repr_of_str ⟨.str _, H, I.tok _, ⟨_, rfl⟩, q⟩ hz
    | lst h1 h2 =>
      cases r1
      exact repr_of_reads' rd hw (fun z => by rw [hn] at z; cases z) g (by omega) (fun _ _ e => e) (fun h' t tk hk => ⟨.str _, H, I.kept (h' := h') (t' := tk) hk, ⟨_, rfl⟩, q⟩) hz
    | tup h1 h2 =>
      cases r1
      exact repr_of_reads' rd hw (fun z => by rw [hn] at z; cases z) g (by omega) (fun _ _ e => e) (fun h' t tk hk => ⟨.str _, H, I.kept (h' := h') (t' := tk) hk, ⟨_, rfl⟩, q⟩) hz
theorem ok_repr : CaOk X.K cl (rRepr X.K) fRepr := by
  intro B H m S σ W vs xs Q o r h
  unfold fRepr at h
  split at h
  · obtain ⟨v, rfl, r1⟩ := one_arg r
    split at h
    · rename_i d hd
      split at h
      · rename_i hz
        simp only [rpOk, Bool.and_eq_true] at hz
        have ok := shp_ok hz.1.1
        exact ⟨v, toP d, rfl, Dp.of (cur_ok o r1 hd) ok, shp_shaped hz.1.1, shw_toP ok hz.1.2, noDict_toP ok, Nat.le_trans (shown_le ok hz.1.2) (szOk_line hz.2), h.here o (.str _)⟩
      · exact h.elim
    · exact h.elim
  · exact h.elim
noncomputable def cChain (f g : A → A → Store → Res) (ca cb cc : CE) : CE := fun ρ S => (ca ρ S).bind fun x S1 => (cb ρ S1).bind fun y S2 => (f x y S2).bind fun z S3 => match z with
  | .val (.bl true) => (cc ρ S3).bind fun w S4 => g y w S4
  | .val (.bl false) => .ok (.val (.bl false)) S3
  | _ => .bad
theorem tChain_ok {r r' : R2} {f g : A → A → Store → Res} {ca cb cc : CE} (hf : OpOk X.K cl r f) (hg : OpOk X.K cl r' g) {σ : L2.St} {H : Hp} {Q : VK} (h : tM X.K cl W (cChain f g ca cb cc) σ H Q) : tChain r r' (tM X.K cl W ca) (tM X.K cl W cb) (tM X.K cl W cc) σ H Q := by
  obtain ⟨B, m, S, ρ, o, e, fin⟩ := h
  refine ⟨B, m, S, ρ, o, e, Fin.bind fin fun x S1 v H1 m1 s1 o1 r1 f1 => ?_⟩
  refine ⟨B, m1, S1, ρ, o1, s1.env o e, Fin.bind f1 fun y S2 w H2 m2 s2 o2 r2 f2 => ?_⟩
  refine hf o2 (s2.rep o1 r1) r2 (Fin.bind f2 fun z S3 u H3 m3 s3 o3 r3 f3 => ?_)
  have e3 := s3.env o2 (s2.env o1 (s1.env o e))
  split at f3
  · cases r3
    exact ⟨true, rfl, iteT ⟨B, m3, S3, ρ, o3, e3, Fin.bind f3 fun w' S4 u' H4 m4 s4 o4 r4 f4 => hg o4 (s4.rep o3 (s3.rep o2 r2)) r4 f4⟩⟩
  · cases r3
    exact ⟨false, rfl, iteF (f3.here o3 (.bl false))⟩
  · exact f3.elim
theorem pm_chain {a b c : Expr} {op op' : CmpOp} {r r' : R2} {f g : A → A → Store → Res} {ca cb cc : CE} {pos : Pos} (ho : OpR X (compareOp op) r) (ho' : OpR X (compareOp op') r') (hf : OpOk X.K cl r f) (hg : OpOk X.K cl r' g) (ha : PE X a (tM X.K cl W ca)) (hb : PE X b (tM X.K cl W cb)) (hc : PE X c (tM X.K cl W cc)) (hm : lastMarks [op, op'] [b, c] = false := by with_unfolding_all rfl) :
    PE X (.Compare a [op, op'] [b, c] pos) (tM X.K cl W (cChain f g ca cb cc)) := PE.imp (pe_chain ho ho' ha hb hc hm) fun _ _ _ h => tChain_ok hf hg h
end
end T3
namespace T3
open PySem PySem.Spec PyProof.Rows L2
noncomputable def cStar (c : CE) (r : CA) : CA := fun ρ S => match c ρ S with
  | .ok x S1 => (match (match x with
      | .val (.tup ds) => some ds
      | y => asL S1 y) with
    | some ds => (match r ρ S1 with
      | .ok xs S2 => .ok (ds.map A.val ++ xs) S2
      | .exc e S2 => .exc e S2
      | .bad => .bad)
    | none => .bad)
  | .exc e S1 => .exc e S1
  | .bad => .bad
section
variable {X : Cx} {cl : ClT} {W : WX}
theorem vals_As {K : PySem.W.Frag} {N : Addr → Prop} {H : Hp} {m : List Addr} : ∀ {vs : List V} {ds : List D}, RepL K cl N H vs ds → RepAs K cl N H m vs (ds.map A.val)
  | _, _, .nil => .nil
  | _, _, .cons h r => .cons (x := .val _) h (vals_As r)
theorem RepAs.append {K : PySem.W.Frag} {N : Addr → Prop} {H : Hp} {m : List Addr} : ∀ {vs ws : List V} {xs ys : List A}, RepAs K cl N H m vs xs → RepAs K cl N H m ws ys → RepAs K cl N H m (vs ++ ws) (xs ++ ys)
  | _, _, _, _, .nil, s => s
  | _, _, _, _, .cons h r, s => .cons h (RepAs.append r s)
theorem pm_star {e : Expr} {es : List Expr} {c : CE} {r : CA} {p : Pos} (he : PE X e (tM X.K cl W c)) (hr : PA X es (tML X.K cl W r)) (hs : starEach (.Starred e p :: es) X.env = (true, eval e X.env) :: starEach es X.env := by rfl) : PA X (.Starred e p :: es) (tML X.K cl W (cStar c r)) :=
  PA.imp (StX.pa_star he hr hs) fun σ H Q h => by
  obtain ⟨B, m, S, ρ, o, e, fin⟩ := h
  refine ⟨B, m, S, ρ, o, e, ?_⟩
  unfold cStar at fin
  cases hc : c ρ S with
  | bad => rw [hc] at fin; exact fin
  | exc e' S1 => rw [hc] at fin; exact fin
  | ok x S1 =>
    rw [hc] at fin
    intro v H1 m1 s1 o1 r1
    dsimp only at fin
    split at fin
    rotate_left
    · exact fin.elim
    rename_i ds hd
    have view : ∃ p vs, v = .ref p ∧ (SqT X.K H1 p vs ∨ SqL X.K H1 p vs) ∧ RepL X.K cl (NN B m1) H1 vs ds := by
      split at hd
      · cases hd
        obtain ⟨a, vs, rfl, e, r⟩ := asT_ok (x := .val (.tup ds)) r1 rfl
        exact ⟨a, vs, rfl, .inl e, r⟩
      · obtain ⟨a, vs, rfl, e, r⟩ := asL_ok o1 r1 hd
        exact ⟨a, vs, rfl, .inr e, r⟩
    obtain ⟨p, vs, rfl, hq, rl⟩ := view
    refine ⟨p, vs, rfl, hq, B, m1, S1, ρ, o1, s1.env o e, ?_⟩
    cases h2 : r ρ S1 with
    | bad => rw [h2] at fin; exact fin
    | exc y S2 => rw [h2] at fin; exact fun c d H' m' s' => fin c d H' m' (s1.trans s')
    | ok xs S2 =>
      rw [h2] at fin
      intro ws H2 m2 s2 o2 r2
      exact fin (vs ++ ws) H2 m2 (s1.trans s2) o2 ((s2.reps o1 (vals_As rl)).append r2)
noncomputable def dedupI (ns : List Int) : List Int := firstMet (fun i => ns.getD i 0) ns.length
noncomputable def cLenSet (c : CE) : CE := fun ρ S => (c ρ S).bind fun x S1 => match (match x with
    | .val (.tup ds) => some ds
    | y => asL S1 y) with
  | some ds => (match intsOf ds with
    | some ns => if decide (ns.length ≤ 1000) then .ok (.val (.int (dedupI ns).length)) S1 else .bad
    | none => .bad)
  | none => .bad
theorem map_getD : ∀ (ns : List Int), (List.range ns.length).map (fun i => ns.getD i 0) = ns := fun ns => by
  apply List.ext_getElem
  · simp
  · intro i h1 h2
    simp [List.getD, List.getElem?_eq_getElem h2]
theorem step_nodup {l : List Int} {v : Int} (h : l.Nodup) : (step_dedup l v).Nodup := by
  unfold step_dedup
  split
  · exact h
  · rename_i q
    rw [List.nodup_append]
    refine ⟨h, by simp, fun a ha b hb => ?_⟩
    rw [List.mem_singleton.mp hb]
    intro e
    subst e
    exact q (by simpa using ha)
theorem firstMet_nd (f : Nat → Int) : ∀ n, (firstMet f n).Nodup
  | 0 => by rw [firstMet_zero]; exact .nil
  | n + 1 => by rw [firstMet_succ]; exact step_nodup (firstMet_nd f n)
theorem dedupI_mem (ns : List Int) (k : Int) : k ∈ dedupI ns ↔ k ∈ ns := by
  have h := firstMet_any (fun i => ns.getD i 0) ns.length k
  rw [map_getD] at h
  have e : ∀ l : List Int, (l.any (· == k) = true) ↔ k ∈ l := fun l => by simp
  unfold dedupI
  rw [← e, ← e, h]
theorem nodup_len : ∀ {l k : List Int}, l.Nodup → (∀ x ∈ l, x ∈ k) → l.length ≤ k.length
  | [], _, _, _ => Nat.zero_le _
  | x :: l, k, h, hs => by
    have hx := hs x List.mem_cons_self
    have h' := List.nodup_cons.mp h
    have := nodup_len (k := k.erase x) h'.2 fun y hy => (List.mem_erase_of_ne fun e => h'.1 (by rw [← e]; exact hy)).mpr (hs y (List.mem_cons_of_mem _ hy))
    have e := List.length_erase_of_mem hx
    have : 0 < k.length := List.length_pos_of_mem hx
    simp only [List.length_cons]
    omega
noncomputable def tLenSetM (K : PySem.W.Frag) (ta : TE) : TE := fun σ H Q => ta σ H fun x H1 => ∃ (l : Addr) (ns : List Int), x = .ref l ∧ (SqL K H1 l (ns.map V.int) ∨ SqT K H1 l (ns.map V.int)) ∧ ns.length ≤ 1000 ∧ Q (.int ((dedupI ns).length : Nat)) H1
theorem pe_lenSetM {a : Expr} {ta : TE} {p p2 q pos : Pos} (hg : Gl X "len") (hm : X.mg "len" = none) (hg2 : Gl X "set") (hm2 : X.mg "set" = none) (ha : PE X a ta) (hc : X.calm = true)
    (na : starEach [a] X.env = (false, eval a X.env) :: starEach [] X.env) (nb : starEach [Expr.Call (.Name "set" p2) [a] [] q] X.env = (false, eval (.Call (.Name "set" p2) [a] [] q) X.env) :: starEach [] X.env) : PE X (.Call (.Name "len" p) [.Call (.Name "set" p2) [a] [] q] [] pos) (tLenSetM X.K ta) := by
  constructor
  intro pins s σ H Q I h
  refine Call_ (ld_blt I hg hm PySem.boot_len ?_)
  refine PyProof.Rows.callWith_builtin1 (PyProof.Rows.args_cons ?_ nb) nb rfl
  refine Call_ (ld_blt I hg2 hm2 PyProof.Rows.boot_set ?_)
  refine PyProof.Rows.callWith_type1 (PyProof.Rows.args_cons (thn (ha.run pins s σ H _ I h) fun v s1 ⟨x, H1, I1, r1, q1⟩ => PyProof.Rows.args_nil ?_) na) na rfl
  obtain ⟨l, ns, rfl, hq, hl, q1⟩ := q1
  cases r1
  have big : ns.length + 1 < scanBound := by unfold scanBound; omega
  rcases hq with hq | hq
  · obtain ⟨its, r, pl, hz⟩ := I1.list hq
    have lens : its.toArray.size = ns.length := by simp [← r.length]
    refine call_set_list (I1.ok.hd hc) pl.isList (by simpa using RZ.intsAre_vals r) (by rw [lens]; exact big) fun h' tk hS hk => ?_
    obtain ⟨o, es, ep, t, ho, hex, hd, _, _, _, hf, hn⟩ := hS
    refine PyProof.Rows.args_nil ?_
    rw [lens] at hn
    have le := firstMet_length_le (fun i => ns.getD i 0) ns.length
    have J : Inv X pins σ H1 { s1 with heap := h', toks := tk } := I1.kept fun b u e => hk b u (Heap.lt_size e) e
    exact call_len_set ho hex hd hf (by rw [hn]; omega) ⟨.int (dedupI ns).length, H1, J.tok _, ⟨_, by rw [hn]; rfl⟩, q1⟩
  · obtain ⟨its, r, pl, hz⟩ := I1.tuple hq
    refine call_set_tupI ns (I1.ok.hd hc) (show s1.heap.IsTuple l its.toArray from pl) (by simpa using RZ.intsAre_vals r) big fun h' tk c hS hc' hk => ?_
    obtain ⟨o, es, ep, t, ho, hex, hd, _, nd, mem, _, hf, hn, _, _⟩ := hS
    refine PyProof.Rows.args_nil ?_
    have hsz : es.size = (dedupI ns).length := by
      have e1 : es.size = (es.toList.map keyOf).length := by simp
      rw [e1]
      refine Nat.le_antisymm (nodup_len nd fun x hx => ?_) (nodup_len (firstMet_nd _ _) fun x hx => ?_)
      · exact (dedupI_mem ns x).mpr (of_decide_eq_true ((mem x).mpr hx))
      · exact (mem x).mp (decide_eq_true ((dedupI_mem ns x).mp hx))
    have J : Inv X pins σ H1 { s1 with heap := h', toks := tk } := I1.kept hk
    exact call_len_set ho hex hd hf (by omega) ⟨.int (dedupI ns).length, H1, J.tok _, ⟨_, by rw [hsz]⟩, q1⟩
theorem pm_lenSet {a : Expr} {c : CE} {p p2 q pos : Pos} (hm : X.mg "len" = none) (hm2 : X.mg "set" = none) (ha : PE X a (tM X.K cl W c)) (hc : X.calm = true) (hg : Gl X "len" := by rfl) (hg2 : Gl X "set" := by rfl)
    (na : starEach [a] X.env = (false, eval a X.env) :: starEach [] X.env := by rfl) (nb : starEach [Expr.Call (.Name "set" p2) [a] [] q] X.env = (false, eval (.Call (.Name "set" p2) [a] [] q) X.env) :: starEach [] X.env := by rfl) :
    PE X (.Call (.Name "len" p) [.Call (.Name "set" p2) [a] [] q] [] pos) (tM X.K cl W (cLenSet c)) :=
  PE.imp (pe_lenSetM hg hm hg2 hm2 ha hc na nb) fun σ H Q h => by
  obtain ⟨B, m, S, ρ, o, e, fin⟩ := h
  refine ⟨B, m, S, ρ, o, e, Fin.bind fin fun x S1 v H1 m1 s1 o1 r1 f1 => ?_⟩
  split at f1
  rotate_left
  · exact f1.elim
  rename_i ds hd
  have view : ∃ p vs, v = .ref p ∧ (SqL X.K H1 p vs ∨ SqT X.K H1 p vs) ∧ RepL X.K cl (NN B m1) H1 vs ds := by
    split at hd
    · cases hd
      obtain ⟨a, vs, rfl, e, r⟩ := asT_ok (x := .val (.tup ds)) r1 rfl
      exact ⟨a, vs, rfl, .inr e, r⟩
    · obtain ⟨a, vs, rfl, e, r⟩ := asL_ok o1 r1 hd
      exact ⟨a, vs, rfl, .inl e, r⟩
  obtain ⟨p, vs, rfl, hq, rl⟩ := view
  split at f1
  · rename_i ns hn
    split at f1
    · rename_i hz
      have := intsOf_ok rl hn
      subst this
      exact ⟨p, ns, rfl, hq, of_decide_eq_true hz, f1.here o1 (.int _)⟩
    · exact f1.elim
  · exact f1.elim
end
end T3
namespace T3
open PySem PySem.Spec PyProof.Rows L2
abbrev Elm2 := D → Store → Option (List D × Store)
noncomputable def lcGo2 (f : Elm2) : List D → Store → Option (List D × Store)
  | [], S => some ([], S)
  | d :: r, S => match f d S with
    | some (ys, S') => (match lcGo2 f r S' with
      | some (zs, S2) => some (ys ++ zs, S2)
      | none => none)
    | none => none
noncomputable def elm2 (t : CT) (ct : CE) (ci1 : CI) (vs1 : List Nat) (t1 : CT) (ct1 ce : CE) (ρ : Slots) : Elm2 := fun d S => match t (.val d) ρ S with
  | some (ρ', S') => (match ct ρ' S' with
    | .ok (.val (.bl true)) S2 => (match ci1 ρ' S2 with
      | .ok ys S3 => lcGo (elm t1 ct1 ce (wipeR ρ' vs1)) ys S3
      | _ => none)
    | .ok (.val (.bl false)) S2 => some ([], S2)
    | _ => none)
  | none => none
noncomputable def cLc2 (fr : Bool) (vs vs1 : List Nat) (ci : CI) (t : CT) (ct : CE) (ci1 : CI) (t1 : CT) (ct1 ce : CE) : CE := fun ρ S => match ci ρ S with
  | .ok xs S1 => (match lcGo2 (elm2 t ct ci1 vs1 t1 ct1 ce (wipeR ρ vs)) xs S1 with
    | some (ds, S2) => if szOk ds.length then mkL fr ds S2 else .bad
    | none => .bad)
  | .exc e S1 => .exc e S1
  | .bad => .bad
theorem lcGo2_cons {f : Elm2} {d : D} {r : List D} {S S2 : Store} {ys : List D} (h : lcGo2 f (d :: r) S = some (ys, S2)) : ∃ us S' zs, f d S = some (us, S') ∧ lcGo2 f r S' = some (zs, S2) ∧ ys = us ++ zs := by
  unfold lcGo2 at h
  split at h
  · rename_i us S' h1
    split at h
    · rename_i zs S3 h2
      cases h
      exact ⟨us, S', zs, h1, h2, rfl⟩
    · cases h
  · cases h
section
variable {X : Cx} {cl : ClT} {W : WX}
/-- a block's state: the made list p holds acc -/
structure Blk (K : PySem.W.Frag) (cl : ClT) (B : Addr → Prop) (p : Addr) (H1 : Hp) (m1 : List Addr) (σ : L2.St) (ρ : Slots) (acc : List D) (H : Hp) (m : List Addr) (S : Store) : Prop where
  st : Step H1 m1 H m
  ok : Ok K cl (BD B p) H m S
  env : EnvOk K cl (NN (BD B p) m) H m σ ρ
  at_ : ∃ av, H p = some (.lst av) ∧ RepL K cl (NN (BD B p) m) H av acc
theorem Blk.kp {K : PySem.W.Frag} {B : Addr → Prop} {p : Addr} {H1 H H' : Hp} {m1 m m' : List Addr} {σ : L2.St} {ρ : Slots} {acc : List D} {S S' : Store} (b : Blk K cl B p H1 m1 σ ρ acc H m S) (s : Step H m H' m') : Kp (NN (BD B p) m) (NN (BD B p) m') H H' := s.kp fun a h => (b.ok.foreign a h).2
theorem Blk.step {K : PySem.W.Frag} {B : Addr → Prop} {p : Addr} {H1 H H' : Hp} {m1 m m' : List Addr} {σ : L2.St} {ρ : Slots} {acc : List D} {S S' : Store} (b : Blk K cl B p H1 m1 σ ρ acc H m S) (s : Step H m H' m') (o : Ok K cl (BD B p) H' m' S') : Blk K cl B p H1 m1 σ ρ acc H' m' S' := by
  obtain ⟨av, e, r⟩ := b.at_
  exact ⟨b.st.trans s, o, s.env b.ok b.env, av, s.kept p _ e (b.ok.foreign p (.inr rfl)).2, r.mono (b.kp (S' := S') s)⟩
theorem Blk.slots {K : PySem.W.Frag} {B : Addr → Prop} {p : Addr} {H1 H : Hp} {m1 m : List Addr} {σ σ' : L2.St} {ρ ρ' : Slots} {acc : List D} {S : Store} (b : Blk K cl B p H1 m1 σ ρ acc H m S) (e : EnvOk K cl (NN (BD B p) m) H m σ' ρ') : Blk K cl B p H1 m1 σ' ρ' acc H m S := ⟨b.st, b.ok, e, b.at_⟩
theorem Blk.push {K : PySem.W.Frag} {B : Addr → Prop} {p : Addr} {H1 H : Hp} {m1 m : List Addr} {σ : L2.St} {ρ : Slots} {acc : List D} {S : Store} {v : V} {y : D} {av : List V} (hp : H1 p = none) (b : Blk K cl B p H1 m1 σ ρ acc H m S) (r : Rep K cl (NN (BD B p) m) H v y) (e : H p = some (.lst av)) :
    Blk K cl B p H1 m1 σ ρ (acc ++ [y]) (upd H p (.lst (av ++ [v]))) m S ∧ Kp (NN (BD B p) m) (NN (BD B p) m) H (upd H p (.lst (av ++ [v]))) := by
  have kg : Kp (NN (BD B p) m) (NN (BD B p) m) H (upd H p (.lst (av ++ [v]))) := kp_at (.inl (.inr rfl)) fun b hb => upd_ne hb
  obtain ⟨av', e', ra⟩ := b.at_
  rw [e] at e'
  cases e'
  refine ⟨⟨⟨b.st.ext, fun a z hz hn nt => ?_, fun a hn => ?_⟩, b.ok.grow e, b.env.mono kg ⟨[], by simp⟩, _, upd_same, (ra.append (.cons r .nil)).mono kg⟩, kg⟩
  · rw [upd_ne fun q => by rw [q, hp] at hz; cases hz]; exact b.st.keep a z hz hn nt
  · by_cases q : a = p
    · rw [q, upd_same]; exact fun z => by cases z
    · rw [upd_ne q]; exact b.st.stay a hn
theorem elm_some {t : CT} {ct ce : CE} {ρ : Slots} {d : D} {S S' : Store} {w : Option D} (h : elm t ct ce ρ d S = some (w, S')) : ∃ ρ4 S4, t (.val d) ρ S = some (ρ4, S4) ∧ ((∃ y S5, w = some y ∧ ct ρ4 S4 = .ok (.val (.bl true)) S5 ∧ ce ρ4 S5 = .ok (.val y) S') ∨ (w = none ∧ ct ρ4 S4 = .ok (.val (.bl false)) S')) := by
  unfold elm at h
  split at h
  · rename_i ρ4 S4 h1
    refine ⟨ρ4, S4, h1, ?_⟩
    split at h
    · rename_i S5 h2
      split at h
      · rename_i y S6 h3
        cases h
        exact .inl ⟨y, S5, rfl, h2, h3⟩
      · cases h
    · rename_i S5 h2
      cases h
      exact .inr ⟨rfl, h2⟩
    · cases h
  · cases h
theorem elm2_some {t : CT} {ct : CE} {ci1 : CI} {vs1 : List Nat} {t1 : CT} {ct1 ce : CE} {ρ : Slots} {d : D} {S S' : Store} {w : List D} (h : elm2 t ct ci1 vs1 t1 ct1 ce ρ d S = some (w, S')) :
    ∃ ρ4 S4, t (.val d) ρ S = some (ρ4, S4) ∧ ((∃ S5 ys S6, ct ρ4 S4 = .ok (.val (.bl true)) S5 ∧ ci1 ρ4 S5 = .ok ys S6 ∧ lcGo (elm t1 ct1 ce (wipeR ρ4 vs1)) ys S6 = some (w, S')) ∨ (w = [] ∧ ct ρ4 S4 = .ok (.val (.bl false)) S')) := by
  unfold elm2 at h
  split at h
  · rename_i ρ4 S4 h1
    refine ⟨ρ4, S4, h1, ?_⟩
    split at h
    · rename_i S5 h2
      split at h
      · rename_i ys S6 h3
        exact .inl ⟨S5, ys, S6, h2, h3, h⟩
      · cases h
    · rename_i S5 h2
      cases h
      exact .inr ⟨rfl, h2⟩
    · cases h
  · cases h
theorem tLc2_ok {fr : Bool} {vs vs1 : List Nat} {ci ci1 : CI} {g g1 : TG} {t t1 : CT} {ct ct1 ce : CE} (hv : ∀ i ∈ vs1, i ∈ vs) (hg : TgC X.K cl vs g t) (hg1 : TgC X.K cl vs1 g1 t1) {tt tt1 : TT} (htt : ∀ σ H Q, tMT X.K cl W0 ct σ H Q → tt σ H Q) (htt1 : ∀ σ H Q, tMT X.K cl W0 ct1 σ H Q → tt1 σ H Q)
    {σ : L2.St} {H : Hp} {Q : VK} (h : tM X.K cl W (cLc2 fr vs vs1 ci t ct ci1 t1 ct1 ce) σ H Q) : tLc2 (tMI X.K cl W ci) g tt (tMI X.K cl W0 ci1) g1 tt1 (tM X.K cl W0 ce) vs vs1 σ H Q := by
  obtain ⟨B, m, S, ρ, o, e, fin⟩ := h
  refine ⟨B, m, S, ρ, o, e, ?_⟩
  unfold cLc2 at fin
  cases hi : ci ρ S with
  | bad => rw [hi] at fin; exact fin
  | exc e' S' => rw [hi] at fin; exact fin
  | ok xs S1 =>
    rw [hi] at fin
    dsimp only at fin
    split at fin
    rotate_left
    · exact fin.elim
    rename_i ds S2 hgo
    split at fin
    rotate_left
    · exact fin.elim
    rename_i hz
    have hz : ds.length ≤ 16000000 := of_decide_eq_true hz
    intro J live H1 m1 s1 o1 l1 src D hD
    have fin1 := Fin.step s1 fin
    have hB : ¬ B D := fun z => (o1.foreign D z).1 hD
    have e1 := s1.env o e
    have b1 : Blk X.K cl B D H1 m1 σ ρ [] (upd H1 D (.lst [])) m1 S1 := ⟨Step.new hD, o1.born hD, e1.mono (Kp.born hD) ⟨[], by simp⟩, [], upd_same, .nil⟩
    refine ⟨fun i n H => n = xs.length - i ∧ i ≤ xs.length ∧ ∃ m S acc rest, Blk X.K cl B D H1 m1 σ ρ acc H m S ∧ live (NN (BD B D) m) H ∧ lcGo2 (elm2 t ct ci1 vs1 t1 ct1 ce (wipeR ρ vs)) (xs.drop i) S = some (rest, S2) ∧ ds = acc ++ rest,
      ⟨xs.length, by simp, Nat.zero_le _, m1, S1, [], ds, b1, src.keep l1 (Kp.born hD), hgo, rfl⟩, ?_⟩
    rintro i n H2 ⟨rfl, hle, m2, S3, acc, rest, b2, l2, go2, eds⟩
    by_cases hlt : i < xs.length
    · refine .inr ⟨src.go i l2 hlt, fun H => i + 1 ≤ xs.length ∧ ∃ m S acc rest, Blk X.K cl B D H1 m1 σ ρ acc H m S ∧ live (NN (BD B D) m) H ∧ lcGo2 (elm2 t ct ci1 vs1 t1 ct1 ce (wipeR ρ vs)) (xs.drop (i + 1)) S = some (rest, S2) ∧ ds = acc ++ rest,
        fun H' hn => ⟨xs.length - (i + 1), by omega, rfl, hn⟩, fun y H3 hy => ?_⟩
      obtain ⟨d, hd, s3, o3, r3⟩ := src.yld i b2.ok l2 hy
      have hd := hd hlt
      rw [List.drop_eq_getElem_cons hlt] at go2
      rw [List.getElem?_eq_getElem hlt] at hd
      cases hd
      have l3 := src.step b2.ok l2 s3
      have b3 := b2.step s3 o3
      obtain ⟨us, S', zs, h1, h2, rfl⟩ := lcGo2_cons go2
      obtain ⟨ρ4, S4, ht, he⟩ := elm2_some h1
      refine hg (x := .val xs[i]) o3 (b3.env.wipe vs) r3 ht fun σ4 w4 eS e4 => ⟨w4.trans (wipe_wipe fun i h => h), ?_⟩
      subst eS
      rcases he with ⟨S5, ys, S6, hc, hy1, hin⟩ | ⟨rfl, hc⟩
      rotate_left
      · refine htt _ _ _ ⟨BD B D, m2, S4, ρ4, o3, e4, ?_⟩
        rw [hc]
        intro H5 m5 s5 o5
        exact iteF ⟨hlt, m5, S', acc, zs, b3.step s5 o5, src.step o3 l3 s5, h2, by simpa using eds⟩
      refine htt _ _ _ ⟨BD B D, m2, S4, ρ4, o3, e4, ?_⟩
      rw [hc]
      intro H5 m5 s5 o5
      have b5 := b3.step s5 o5
      have l5 := src.step o3 l3 s5
      have e5 := s5.env o3 e4
      refine iteT ⟨BD B D, m5, S5, ρ4, o5, e5, ?_⟩
      rw [hy1]
      intro J1 live1 H6 m6 s6 o6 l6 src1
      have b6 := b5.step s6 o6
      have l6' := src.step o5 l5 s6
      have e6 := s6.env o5 e5
      -- the inner walk
      refine ⟨fun j k H => k = ys.length - j ∧ j ≤ ys.length ∧ ∃ m S acc' rest', Blk X.K cl B D H1 m1 σ ρ acc' H m S ∧ EnvOk X.K cl (NN (BD B D) m) H m σ4 ρ4 ∧ live (NN (BD B D) m) H ∧ live1 (NN (BD B D) m) H ∧
          lcGo (elm t1 ct1 ce (wipeR ρ4 vs1)) (ys.drop j) S = some (rest', S') ∧ acc' ++ rest' = acc ++ us,
        ⟨ys.length, by simp, Nat.zero_le _, m6, S6, acc, us, b6, e6, l6', l6, hin, rfl⟩, ?_⟩
      rintro j k H7 ⟨rfl, hle1, m7, S7, acc7, rest7, b7, e7, l7, k7, go7, eq7⟩
      by_cases hlt1 : j < ys.length
      · refine .inr ⟨src1.go j k7 hlt1, fun H => j + 1 ≤ ys.length ∧ ∃ m S acc' rest', Blk X.K cl B D H1 m1 σ ρ acc' H m S ∧ EnvOk X.K cl (NN (BD B D) m) H m σ4 ρ4 ∧ live (NN (BD B D) m) H ∧ live1 (NN (BD B D) m) H ∧
            lcGo (elm t1 ct1 ce (wipeR ρ4 vs1)) (ys.drop (j + 1)) S = some (rest', S') ∧ acc' ++ rest' = acc ++ us, fun H' hn => ⟨ys.length - (j + 1), by omega, rfl, hn⟩, fun z H8 hz8 => ?_⟩
        obtain ⟨d8, hd8, s8, o8, r8⟩ := src1.yld j b7.ok k7 hz8
        have hd8 := hd8 hlt1
        rw [List.drop_eq_getElem_cons hlt1] at go7
        rw [List.getElem?_eq_getElem hlt1] at hd8
        cases hd8
        have b8 := b7.step s8 o8
        have e8 := s8.env b7.ok e7
        have l8 := src.step b7.ok l7 s8
        have k8 := src1.step b7.ok k7 s8
        have fin8 : ∀ (w : Option _) (S9 : Store) (rest9 : List T3.D), elm t1 ct1 ce (wipeR ρ4 vs1) ys[j] S7 = some (w, S9) → lcGo (elm t1 ct1 ce (wipeR ρ4 vs1)) (ys.drop (j + 1)) S9 = some (rest9, S') → acc7 ++ (w.toList ++ rest9) = acc ++ us →
            g1 z (wipe σ4 vs1) H8 fun σ3 H5 => wipe σ3 vs1 = wipe σ4 vs1 ∧ tt1 σ3 H5 fun b H6 =>
              if b = true then tM X.K cl W0 ce σ3 H6 fun y H7 => ∃ acc', H7 D = some (.lst acc') ∧ acc'.length < sizeLine ∧ (fun H => j + 1 ≤ ys.length ∧ ∃ m S acc' rest', Blk X.K cl B D H1 m1 σ ρ acc' H m S ∧ EnvOk X.K cl (NN (BD B D) m) H m σ4 ρ4 ∧ live (NN (BD B D) m) H ∧ live1 (NN (BD B D) m) H ∧
                lcGo (elm t1 ct1 ce (wipeR ρ4 vs1)) (ys.drop (j + 1)) S = some (rest', S') ∧ acc' ++ rest' = acc ++ us) (upd H7 D (.lst (acc' ++ [y]))) else (fun H => j + 1 ≤ ys.length ∧ ∃ m S acc' rest', Blk X.K cl B D H1 m1 σ ρ acc' H m S ∧ EnvOk X.K cl (NN (BD B D) m) H m σ4 ρ4 ∧ live (NN (BD B D) m) H ∧ live1 (NN (BD B D) m) H ∧
                lcGo (elm t1 ct1 ce (wipeR ρ4 vs1)) (ys.drop (j + 1)) S = some (rest', S') ∧ acc' ++ rest' = acc ++ us) H6 := by
          intro w S9 rest9 hw hgo9 heq9
          obtain ⟨ρ9, S10, ht9, he9⟩ := elm_some hw
          refine hg1 (x := .val ys[j]) o8 (e8.wipe vs1) r8 ht9 fun σ9 w9 eS9 e9 => ⟨w9.trans (wipe_wipe fun i h => h), ?_⟩
          subst eS9
          rcases he9 with ⟨y9, S11, rfl, hc9, hv9⟩ | ⟨rfl, hc9⟩
          · refine htt1 _ _ _ ⟨BD B D, m7, _, ρ9, o8, e9, ?_⟩
            rw [hc9]
            intro Ha ma sa oa
            refine iteT ⟨BD B D, ma, S11, ρ9, oa, sa.env o8 e9, ?_⟩
            rw [hv9]
            intro u Hb mb sb ob rb
            have sab := sa.trans sb
            have bb := b8.step sab ob
            obtain ⟨av, ea, ra⟩ := bb.at_
            obtain ⟨bp, kg⟩ := bb.push hD rb ea
            have hlen : av.length < sizeLine := by
              rw [ra.length]
              have := congrArg List.length heq9
              simp only [List.length_append, Option.toList_some, List.length_cons, List.length_nil] at this
              rw [eds, List.length_append, List.length_append] at hz
              exact Nat.lt_of_lt_of_le (by omega : acc7.length < 16000000) (by decide)
            exact ⟨av, ea, hlen, hlt1, mb, S9, acc7 ++ [y9], rest9, bp, (sab.env o8 e8).mono kg ⟨[], by simp⟩, src.keep (src.step o8 l8 sab) kg, src1.keep (src1.step o8 k8 sab) kg, hgo9, by simpa using heq9⟩
          · refine htt1 _ _ _ ⟨BD B D, m7, _, ρ9, o8, e9, ?_⟩
            rw [hc9]
            intro Ha ma sa oa
            exact iteF ⟨hlt1, ma, S9, acc7, rest9, b8.step sa oa, sa.env o8 e8, src.step o8 l8 sa, src1.step o8 k8 sa, hgo9, by simpa using heq9⟩
        rcases lcGo_cons go7 with ⟨y, Sx, zz, h1, h2, rfl⟩ | ⟨Sx, h1, h2⟩
        · exact fin8 (some y) Sx zz h1 h2 eq7
        · exact fin8 none Sx rest7 h1 h2 eq7
      · have hj : j = ys.length := by omega
        subst hj
        rw [List.drop_length] at go7
        cases go7
        rw [List.append_nil] at eq7
        exact .inl ⟨src1.stop k7, hlt, m7, _, acc7, zs, b7, l7, h2, by rw [eds, eq7, List.append_assoc]⟩
    · have hi : i = xs.length := by omega
      subst hi
      rw [List.drop_length] at go2
      cases go2
      rw [List.append_nil] at eds
      subst eds
      obtain ⟨av, ea, ra⟩ := b2.at_
      exact .inl ⟨src.stop l2, born_end hD b2.st b2.ok ea ra hB fin1⟩
theorem pm_setLc2 (fr : Bool) (i : Nat) {y : Str} {py : Pos} {elt tg iter tg1 iter1 : Expr} {ifs ifs1 : List Expr} {scope : Scope} {own : List (Str × Nat)} {vs1 : List Nat} {pos spos : Pos} {ci ci1 : CI} {g g1 : TG} {t t1 : CT} {ct ct1 ce : CE} {tt tt1 : TT} (hc : X.calm = true) (hN : X.N.Nodup)
    (hsw : swapsWith (.ListComp elt [⟨tg, iter, ifs, 0⟩, ⟨tg1, iter1, ifs1, 0⟩] scope pos) (some (.Name y py)) spos.line X.env = pure true) (hi : PI X tg iter (tMI X.K cl W ci)) (ok : BlkOk X.N X.env.scope scope own) (hv : ∀ i ∈ vs1, i ∈ own.map (·.2))
    (hg : ∀ (s : Shared) (H : Hp) (C : Addr) (cl' : List (Str × Addr)) (fp : List Addr), PG (X.blk s H scope (compEnvC scope cl' C X.env) fp) tg g) (hgo : TgC X.K cl (own.map (·.2)) g t)
    (ht : ∀ (s : Shared) (H : Hp) (C : Addr) (cl' : List (Str × Addr)) (fp : List Addr), PTs (X.blk s H scope (compEnvC scope cl' C X.env) fp) ifs tt) (hto : ∀ σ H Q, tMT X.K cl W0 ct σ H Q → tt σ H Q)
    (hi1 : ∀ (s : Shared) (H : Hp) (C : Addr) (cl' : List (Str × Addr)) (fp : List Addr), PI (X.blk s H scope (compEnvC scope cl' C X.env) fp) tg1 iter1 (tMI X.K cl W0 ci1))
    (hg1 : ∀ (s : Shared) (H : Hp) (C : Addr) (cl' : List (Str × Addr)) (fp : List Addr), PG (X.blk s H scope (compEnvC scope cl' C X.env) fp) tg1 g1) (hgo1 : TgC X.K cl vs1 g1 t1)
    (ht1 : ∀ (s : Shared) (H : Hp) (C : Addr) (cl' : List (Str × Addr)) (fp : List Addr), PTs (X.blk s H scope (compEnvC scope cl' C X.env) fp) ifs1 tt1) (hto1 : ∀ σ H Q, tMT X.K cl W0 ct1 σ H Q → tt1 σ H Q)
    (he : ∀ (s : Shared) (H : Hp) (C : Addr) (cl' : List (Str × Addr)) (fp : List Addr), PE (X.blk s H scope (compEnvC scope cl' C X.env) fp) elt (tM X.K cl W0 ce)) (hs : ∀ x, foldedSetIterable iter X.env x = pure x := by intro _; rfl) (hs1 : ∀ env x, foldedSetIterable iter1 env x = pure x := by intro _ _; rfl)
    (hy : X.N[i]? = some y := by rfl) (hyl : X.env.scope.names.lookup y = some .local := by rfl) :
    PS X (.Assign [.Name y py] (.ListComp elt [⟨tg, iter, ifs, 0⟩, ⟨tg1, iter1, ifs1, 0⟩] scope pos) spos) (tMS X.K cl W (sAsg (tgName i) (cLc2 fr (own.map (·.2)) vs1 ci t ct ci1 t1 ct1 ce))) :=
  PS.imp (ps_setLc2 hc hN hy hyl hsw hi ok hv hg ht hi1 hg1 ht1 he hs hs1) fun E σ H h => by
  obtain ⟨B, m, S, ρ, o, e, fin⟩ := h
  refine tLc2_ok hv hgo hgo1 hto hto1 ⟨B, m, S, ρ, o, e, FinS.bind o e fin fun x S1 v H1 m1 s1 o1 e1 r1 f1 => ?_⟩
  exact f1 _ H1 m1 Step.refl o1 (e1.set i r1)
end
end T3
namespace T3
open PySem PySem.Spec PyProof.Rows L2
noncomputable def sPar (i j : Nat) (c : CA) : CS := fun ρ S => match c ρ S with
  | .ok [x, y] S1 => .nx ((ρ.set i (some x)).set j (some y)) S1
  | .ok _ _ => .bad
  | .exc e S1 => .exc e ρ S1
  | .bad => .bad
section
variable {X : Cx} {cl : ClT} {W : WX}
theorem pm_g {x : Str} {v : V} {d : D} {pos : Pos} (h : ∃ u, X.mg x = some u ∧ RelV v u) (r : ∀ N H, Rep X.K cl N H v d) (hg : Gl X x := by rfl) (hd : (x == ("__debug__" : Str)) = false := by decide) : PE X (.Name x pos) (tM X.K cl W (cK d)) := by
  obtain ⟨u, h1, h2⟩ := h
  exact pm_c (pe_glob hg h1 h2 hd) r
end
end T3
namespace T3
open PySem PySem.Spec PyProof.Rows L2
/-- what the law's def tells of a script -/
noncomputable def LawSays (f : Fn) : Prop := ∀ ns : List Int, ns.length ≤ 63 → ∃ S, f [.val (.ro (ns.map D.int))] [] = .ok (.val (.bl true)) S
theorem repl_ints {K : PySem.W.Frag} {cl : ClT} {N : Addr → Prop} {H : Hp} : ∀ ns : List Int, RepL K cl N H (ns.map V.int) (ns.map D.int)
  | [] => .nil
  | n :: r => .cons (.int n) (repl_ints r)
theorem ok_nil {K : PySem.W.Frag} {cl : ClT} {H : Hp} (t : LamX.Tabs cl.T H) : Ok K cl (fun _ => False) H [] [] :=
  ⟨fun _ h => h.elim, rfl, List.nodup_nil, fun i a o h => by simp at h, t⟩
theorem spLaw {K : PySem.W.Frag} {cl : ClT} {f : Fn} (L : LawSays f) (H : Hp) (a : Addr) (ns : List Int) (hl : ns.length ≤ 63) (hS : SqL K H a (ns.map V.int)) (ht : LamX.Tabs cl.T H) :
    spF K cl 1 f [.ref a] H (fun v _ => v = V.bl true) fun _ _ _ => False := by
  obtain ⟨S, e⟩ := L ns hl
  have hq : RoAt K (NN (fun _ => False) []) H a (ns.map V.int) := by
    rcases hS with h | h
    · exact .inl ⟨h, fun z => by rcases z with z | z; exact z; simp at z⟩
    · exact .inr h
  refine ⟨rfl, fun _ => False, [], [], _, ok_nil ht, .cons (show RepA K cl _ H [] (.ref a) (.val (.ro (ns.map D.int))) from .ro hq (repl_ints ns)) .nil, ?_⟩
  rw [e]
  intro v H' m' _ _ r
  cases r
  rfl
end T3
namespace T3
open PySem PySem.Spec PyProof.Rows L2
/-- the type's name; an instance has none here -/
noncomputable def tyD (S : Store) : A → Option String
  | .val .non => some "NoneType"
  | .val (.bl _) => some "bool"
  | .val (.int _) => some "int"
  | .val (.str _) => some "str"
  | .val (.tup _) => some "tuple"
  | .val (.lst _) => some "list"
  | .val (.ro _) => some "list"
  | .val (.dic _ _) => some "dict"
  | .val (.ins _ _ _) => none
  | .val (.wt _) => none
  | .ref i => (match S[i]? with
    | some (.lst _) => some "list"
    | some (.dic _ _) => some "dict"
    | _ => none)
noncomputable def subT (t T : String) : Bool := t == T || (t == "bool" && T == "int")
noncomputable def cIsi (T : String) (c : CE) : CE := fun ρ S => (c ρ S).bind fun x S1 => match tyD S1 x with
  | some t => .ok (.val (.bl (subT t T))) S1
  | none => .bad
/-- the answers of the kit for the built-in types in use -/
noncomputable def IsiT (K : PySem.W.Frag) (T : String) : Prop := ∀ t ∈ ["NoneType", "bool", "int", "str", "tuple", "list", "dict"], PySem.W.kitOne K (.type t) (.type T) = some (subT t T)
section
variable {X : Cx} {cl : ClT} {W : WX}
theorem tyD_ok {B : Addr → Prop} {H : Hp} {m : List Addr} {S : Store} {v : V} {x : A} {t : String} (o : Ok X.K cl B H m S) (r : RepA X.K cl (NN B m) H m v x) (h : tyD S x = some t) : TyX X.K H v (.type t) ∧ t ∈ ["NoneType", "bool", "int", "str", "tuple", "list", "dict"] := by
  cases x with
  | val d =>
    cases r with
    | non => cases h; exact ⟨.base .non, by decide⟩
    | bl b => cases h; exact ⟨.base (.bl b), by decide⟩
    | int i => cases h; exact ⟨.base (.int i), by decide⟩
    | str s => cases h; exact ⟨.base (.str s), by decide⟩
    | tup ht _ =>
      cases h
      refine ⟨?_, by decide⟩
      rcases ht with ⟨ob, h1, _⟩ | ⟨ob, its, n, h1, h2, _⟩
      · exact .fTuple h1
      · exact .kTuple h1 h2
    | lst h1 _ _ => cases h; exact ⟨.base (.lst h1), by decide⟩
    | ro ht _ =>
      cases h
      refine ⟨?_, by decide⟩
      rcases ht with ⟨h1 | ⟨ob, h1⟩, _⟩ | ⟨ob, its, n, h1, h2, _⟩
      · exact .base (.lst h1)
      · exact .base (.frz h1)
      · exact .kList h1 h2
    | dic h1 _ _ _ => cases h; exact ⟨.base (.dK h1), by decide⟩
    | ins _ _ => cases h
    | wt _ _ _ => cases h
  | ref i =>
    obtain ⟨a, ha, rfl⟩ := r
    simp only [tyD] at h
    split at h <;> cases h
    · rename_i ds hs
      obtain ⟨xs, e, _⟩ := o.obj i a _ ha hs
      exact ⟨.base (.lst e), by decide⟩
    · rename_i ks vs hs
      obtain ⟨xs, e, _⟩ := o.obj i a _ ha hs
      exact ⟨.base (.dK e), by decide⟩
theorem pm_isi {T : String} {x : Str} {e : Expr} {c : CE} {p q pos : Pos} (hT : IsiT X.K T) (he : PE X e (tM X.K cl W c)) (hm : X.mg "isinstance" = none) (hmx : X.mg x = none) (hv : bootBuiltins x = some (.type T)) (hg : Gl X "isinstance" := by rfl) (hgx : Gl X x := by rfl)
    (hn : x ≠ "__name__" := by decide) (hd : (x == ("__debug__" : Str)) = false := by decide) (hs : starEach [e, .Name x q] X.env = (false, eval e X.env) :: starEach [.Name x q] X.env := by rfl) (hs2 : starEach [.Name x q] X.env = (false, eval (.Name x q) X.env) :: starEach [] X.env := by rfl)
    (hpl : (backTo pos (starEach [.Name x q] X.env)).any (·.1) = false := by rfl) : PE X (.Call (.Name "isinstance" p) [e, .Name x q] [] pos) (tM X.K cl W (cIsi T c)) := by
  have ht : PE X (.Name x q) (tC (.ty T)) := pe_bltn hgx hmx hv (by rfl) hn hd
  have ha : PA X [e, .Name x q] (tCons (tM X.K cl W c) (tCons (tC (.ty T)) tNil)) := pa_cons he (pa_cons ht pa_nil hs2) hs
  refine PE.imp (pe_callB call_isi hg hm (by rfl) ha (by decide) (by decide) hs hpl) fun σ H Q h => ?_
  obtain ⟨B, m, S, ρ, o, en, fin⟩ := h
  refine ⟨B, m, S, ρ, o, en, Fin.bind fin fun x S1 v H1 m1 s1 o1 r1 f1 => ?_⟩
  split at f1
  · rename_i t ht
    obtain ⟨h1, h2⟩ := tyD_ok o1 r1 ht
    exact ⟨v, .ty T, .type t, .type T, _, rfl, .ty T, h1, hT t h2, f1.here o1 (.bl _)⟩
  · exact f1.elim
noncomputable def findD (x : D) : List D → Option Nat
  | [] => none
  | d :: r => if dEq d x then some 0 else (findD x r).map (· + 1)
noncomputable def fIndex (x : A) (xs : List A) (S : Store) : Res := match x, xs with
  | x, [y] => (match cur S x, cur S y with
    | some (.lst ds), some d => if shp d && shp (.lst ds) then (match findD d ds with
      | some j => .ok (.val (.int (j : Nat))) S
      | none => .bad) else .bad
    | _, _ => .bad)
  | _, _ => .bad
theorem find_ok {K : PySem.W.Frag} {d : D} (hd : dOk d = true) : ∀ {ds : List D} {j : Nat}, dOkL ds = true → findD d ds = some j →
    ∃ z, (toPL ds)[j]? = some z ∧ PyData.eqv z (toP d) = true ∧ ∀ (m : Nat) (z' : PyData), m < j → (toPL ds)[m]? = some z' → PyData.eqv z' (toP d) = false
  | [], j, _, h => by cases h
  | x :: r, j, hl, h => by
    simp only [dOkL, Bool.and_eq_true] at hl
    simp only [findD] at h
    split at h
    · rename_i he
      cases h
      exact ⟨toP x, rfl, by rw [dEq_toP hl.1 hd]; exact he, fun m z' hm => absurd hm (Nat.not_lt_zero m)⟩
    · rename_i he
      cases q : findD d r with
      | none => rw [q] at h; cases h
      | some i =>
        rw [q] at h
        cases h
        obtain ⟨z, h1, h2, h3⟩ := find_ok (K := K) hd hl.2 q
        refine ⟨z, h1, h2, fun m z' hm hz => ?_⟩
        cases m with
        | zero =>
          cases hz
          rw [dEq_toP hl.1 hd]
          exact Bool.eq_false_iff.mpr he
        | succ m => exact h3 m z' (Nat.lt_of_succ_lt_succ hm) hz
theorem ok_index : MtOk X.K cl (rIndexD X.K) fIndex := by
  intro B H m S σ W v x vs xs Q o rx rs h
  unfold fIndex at h
  split at h
  · rename_i y
    obtain ⟨w, rfl, r1⟩ := one_arg rs
    split at h
    · rename_i ds d h1 h2
      split at h
      · rename_i hz
        simp only [Bool.and_eq_true] at hz
        split at h
        · rename_i j hj
          have hl := Dp.of (cur_ok o rx h1) (shp_ok hz.2)
          obtain ⟨a, rfl⟩ : ∃ a, v = .ref a := by cases cur_ok o rx h1 with | lst _ _ _ => exact ⟨_, rfl⟩
          obtain ⟨z, e1, e2, e3⟩ := find_ok (K := X.K) (shp_ok hz.1) (ds := ds) (shp_ok hz.2) hj
          exact ⟨a, w, toP d, toPL ds, j, z, rfl, rfl, hl, Dp.of (cur_ok o r1 h2) (shp_ok hz.1), shp_shaped hz.2, shp_shaped hz.1, e1, e2, e3, h.here o (.int _)⟩
        · exact h.elim
      · exact h.elim
    · exact h.elim
  · exact h.elim
theorem pm_index {o e : Expr} {c ce : CE} {apos cpos : Pos} (hu : X.A.units + 65 < cLine) (ho : PE X o (tM X.K cl W c)) (ha : PE X e (tM X.K cl W ce)) (hs1 : starEach [e] X.env = (false, eval e X.env) :: starEach [] X.env := by rfl)
    (hbase : attributeBase o "index" X.env (eval o X.env) = eval o X.env := by rfl) (hfew : ((backTo cpos (starEach [e] X.env)).all (fun x => !x.1) && (backToKw cpos (keywordEach [] X.env)).all (fun x => x.1.isSome)
      && decide ([e].length + ([] : List Keyword).length + (if ([] : List Keyword).isEmpty then 0 else 1) < 30)) = true := by rfl) (hline : (apos.endLine == cpos.line) = true := by rfl) (hplain : (backTo cpos (starEach [] X.env)).any (·.1) = false := by rfl) :
    PE X (.Call (.Attribute o "index" apos) [e] [] cpos) (tM X.K cl W (cMt tyL fIndex c (cCons ce cNil))) :=
  PE.imp (pe_bm PySem.F.plainAttrs_list PySem.F.slot_list_index PySem.F.type_list_index (mt_indexD hu) ho (pm_cons ha pm_nil hs1) hbase hfew hline hs1 hplain) fun _ _ _ h => tBM_ok ty_list ok_index h
end
end T3
namespace T3
open PySem PySem.Spec PyProof.Rows L2
theorem hu65 {k : Nat} {A : Around} (r : Room k A) : A.units + 65 < cLine := by have := r.un; omega
theorem hu64 {k : Nat} {A : Around} (r : Room k A) : A.units + 64 < cLine := by have := r.un; omega
theorem hu70 {k : Nat} {A : Around} (r : Room k A) : A.units + 70 < cLine := by have := r.un; omega
noncomputable def fNeg (x : A) (S : Store) : Res := match x with
  | .val (.int i) => .ok (.val (.int (-i))) S
  | _ => .bad
section
variable {K : PySem.W.Frag} {cl : ClT}
theorem ok_neg : UnOk K cl (rU fun i => .int (-i)) fNeg := by
  intro B H m S σ W v x Q o r h
  unfold fNeg at h
  split at h
  · cases r
    exact ⟨_, rfl, h.here o (.int _)⟩
  · exact h.elim
theorem ok_fSub : OpOk K cl (rI0 fun i j => .int (i - j)) fSub := ok_i20 fun _ _ _ _ => .int _
theorem ok_fLt : OpOk K cl (rI0 fun i j => .bl (decide (i < j))) fLt := ok_i20 fun _ _ _ _ => .bl _
theorem ok_fLe : OpOk K cl (rI0 fun i j => .bl (decide (i ≤ j))) fLe := ok_i20 fun _ _ _ _ => .bl _
theorem ok_fGt : OpOk K cl (rI0 fun i j => .bl (decide (j < i))) fGt := ok_i20 fun _ _ _ _ => .bl _
theorem ok_fGe : OpOk K cl (rI0 fun i j => .bl (decide (j ≤ i))) fGe := ok_i20 fun _ _ _ _ => .bl _
theorem ok_fMod : OpOk K cl (rI (fun _ j => 0 < j) fun i j => .int (i % j)) fMod := ok_i2 (fun _ _ h => by simpa using h) fun _ _ _ _ => .int _
theorem ok_fFdv : OpOk K cl (rI CDiv fun i j => .int (i / j)) fFdv := ok_i2 (fun _ _ h => by simpa [CDiv] using h) fun _ _ _ _ => .int _
theorem ok_fPow : OpOk K cl (rI CPow fun i j => .int (i ^ j.toNat)) fPow := ok_i2 (fun i j h => by
  simp only [Bool.and_eq_true, decide_eq_true_eq] at h
  refine ⟨?_, ?_, ?_⟩ <;> omega) fun _ _ _ _ => .int _
end
end T3
namespace T3
open PySem PySem.Spec PyProof.Rows L2
/-- where a def stands -/
noncomputable def At (K : PySem.W.Frag) (mg : Str → Option Value) (nm : Str) (st : Stmt) : Prop := ∃ (fa : Addr) (fd : FuncData), mg nm = some (.ref fa) ∧ Fun K nm nm st fa fd
/-- a module's constant -/
noncomputable def Cn (mg : Str → Option Value) (nm : Str) (v : V) : Prop := ∃ u, mg nm = some u ∧ RelV v u
section
variable {P : Program} {w : World} {K : PySem.W.Frag} {mg : Str → Option Value} {base : Heap} {cl : ClT}
theorem at_mk {h : Heap} {nm : Str} {st : Stmt} {fa : Addr} {oc : Value} {od an : Option Addr} {osl : Array (Option Value)} {kV doc pm cdv ct : Value} (X : K.In h) (G : h.Ns mainGlobals mg) (a : PySem.W.nsIn K mainGlobals nm = some (some (.ref fa)))
    (l : K.lookup fa = some ⟨oc, od, .func (PySem.W.fnOf nm nm (defArgs st) (defBody st) (defScope st) .none kV doc pm an cdv ct), osl⟩) (c : PySem.W.codeIn K cdv nm = true) (k : PySem.W.keepIn K (.ref fa) = true) : At K mg nm st :=
  ⟨fa, _, PySem.W.mg_of X G a, fun_mk l c k⟩
theorem binds_of {nm : Str} {st : Stmt} {ps : List Str} (h : ∀ (kV doc pm : Value) (an : Option Addr) (cdv ct : Value) (us : List Value), us.length = ps.length → bindArgs (PySem.W.fnOf nm nm (defArgs st) (defBody st) (defScope st) .none kV doc pm an cdv ct) ⟨us, []⟩ = pure (ps.zip us))
    (fa : Addr) (fd : FuncData) (F : Fun K nm nm st fa fd) : Binds K fd ps [] := F.binds h
/-- a def by its body -/
theorem fnD {nm : Str} {st : Stmt} {N ps : List Str} {k : Nat} {b : CS} (S : FnScope N ps (defScope st))
    (body : ∀ (fa : Addr) (cdv : Value) (A : Around) (outer : List Env) (s : Shared) (H : Hp) (E : XK),
      (A.deeper (envOfC nm (defScope st) s.heap.objs.size fa cdv)).guards = some [] → Room k (A.deeper (envOfC nm (defScope st) s.heap.objs.size fa cdv)) →
      Takes (cxOf (L2.CX P w) P w K mg base N nm (defScope st) fa cdv A outer s H E) (fun c d _ H => E c d H) →
      PSs (cxOf (L2.CX P w) P w K mg base N nm (defScope st) fa cdv A outer s H E) (defBody st) (tMS K cl (fun c d _ H => E c d H) b))
    (fa : Addr) (fd : FuncData) (F : Fun K nm nm st fa fd) : FnG P w K mg base (k + 1) fa fd ps (spF K cl ps.length (runF N.length b)) := fnM F S (body fa)
theorem calG_of {nm : Str} {st : Stmt} {ps : List Str} {j n : Nat} {f : Fn} (D : At K mg nm st) (bd : ∀ fa fd, Fun K nm nm st fa fd → Binds K fd ps []) (h : ∀ fa fd, Fun K nm nm st fa fd → FnG P w K mg base j fa fd ps (spF K cl n f)) (hn : ps.length = n := by rfl) : CalG P w K mg base cl j nm n f := by
  obtain ⟨fa, fd, hm, F⟩ := D
  exact ⟨fa, fd, ps, hm, F.kp, bd _ _ F, hn, h _ _ F⟩
theorem bindsL {pn : Str} {st : Stmt} (h : ∀ (kV doc pm : Value) (an : Option Addr) (cdv ct u : Value), bindArgs (PySem.W.fnOf "law" "law" (defArgs st) (defBody st) (defScope st) .none kV doc pm an cdv ct) ⟨[u], []⟩ = pure [(pn, u)])
    (fa : Addr) (fd : FuncData) (F : Fun K "law" "law" st fa fd) (s : Shared) (u : Value) : BindsTo s fd ⟨[u], []⟩ [(pn, u)] := by
  obtain ⟨oc, od, kV, doc, pm, an, cdv, ct, osl, rfl, lk, hcd⟩ := F.ex
  exact .of_eq (h kV doc pm an cdv ct u)
end
end T3
namespace T3
open PySem PySem.Spec PyProof.Rows L2
theorem isiT_int (K : PySem.W.Frag) : IsiT K "int" := by
  intro t ht
  simp only [List.mem_cons, List.not_mem_nil, or_false] at ht
  rcases ht with rfl | rfl | rfl | rfl | rfl | rfl | rfl <;> rfl
theorem isiT_bool (K : PySem.W.Frag) : IsiT K "bool" := by
  intro t ht
  simp only [List.mem_cons, List.not_mem_nil, or_false] at ht
  rcases ht with rfl | rfl | rfl | rfl | rfl | rfl | rfl <;> rfl
theorem isiT_str (K : PySem.W.Frag) : IsiT K "str" := by
  intro t ht
  simp only [List.mem_cons, List.not_mem_nil, or_false] at ht
  rcases ht with rfl | rfl | rfl | rfl | rfl | rfl | rfl <;> rfl
theorem isiT_tuple (K : PySem.W.Frag) : IsiT K "tuple" := by
  intro t ht
  simp only [List.mem_cons, List.not_mem_nil, or_false] at ht
  rcases ht with rfl | rfl | rfl | rfl | rfl | rfl | rfl <;> rfl
end T3
namespace T3
open PySem PySem.Spec PyProof.Rows L2
/-- a turn of a loop -/
noncomputable def lb (t : CT) (b : CS) : D → CS := fun d ρ S => match t (.val d) ρ S with
  | some (ρ', S') => b ρ' S'
  | none => .bad
section
variable {ρ : Slots} {S S1 S2 : Store} {i j : Nat}
@[simp ↓] theorem ap_V : cV i ρ S = (match ρ[i]? with | some (some x) => Res.ok x S | _ => .bad) := by
  first | rfl | (unfold cV; rfl)
@[simp ↓] theorem ap_K {d : D} : cK d ρ S = .ok (.val d) S := rfl
@[simp ↓] theorem ap_Bin {f : A → A → Store → Res} {a b : CE} : cBin f a b ρ S = (match a ρ S with | .ok x S1 => ((match b ρ S1 with | .ok y S2 => (f x y S2) | .exc e S9 => .exc e S9 | .bad => .bad)) | .exc e S9 => .exc e S9 | .bad => .bad) := rfl
@[simp ↓] theorem ap_Un {f : A → Store → Res} {a : CE} : cUn f a ρ S = (match a ρ S with | .ok x9 S8 => (f x9 S8) | .exc e S9 => .exc e S9 | .bad => .bad) := rfl
@[simp ↓] theorem ap_Nil : cNil ρ S = .ok [] S := rfl
@[simp ↓] theorem ap_Cons {c : CE} {r : CA} : cCons c r ρ S = (match c ρ S with | .ok x S1 => (match r ρ S1 with | .ok xs S2 => LRes.ok (x :: xs) S2 | .exc e S2 => .exc e S2 | .bad => .bad) | .exc e S1 => .exc e S1 | .bad => .bad) := rfl
@[simp ↓] theorem ap_Tup {c : CA} : cTup c ρ S = (match c ρ S with | .ok xs S1 => (match valsOf xs with | some ds => if szOk ds.length then .ok (.val (.tup ds)) S1 else .bad | none => .bad) | .exc e S9 => .exc e S9 | .bad => .bad) := rfl
@[simp ↓] theorem ap_Lst {fr : Bool} {c : CA} : cLst fr c ρ S = (match c ρ S with | .ok xs S1 => (match valsOf xs with | some ds => if szOk ds.length then mkL fr ds S1 else .bad | none => .bad) | .exc e S9 => .exc e S9 | .bad => .bad) := rfl
@[simp] theorem mkL_t {ds : List D} : mkL true ds S = .ok (.val (.lst ds)) S := rfl
@[simp] theorem mkL_f {ds : List D} : mkL false ds S = .ok (.ref S.length) (S ++ [.lst ds]) := rfl
@[simp ↓] theorem ap_If {ct ca cb : CE} : cIf ct ca cb ρ S = (match ct ρ S with | .ok x S1 => (match x with | .val (.bl true) => ca ρ S1 | .val (.bl false) => cb ρ S1 | _ => .bad) | .exc e S9 => .exc e S9 | .bad => .bad) := rfl
@[simp ↓] theorem ap_Tru {c : CE} : cTru c ρ S = (match c ρ S with | .ok x S1 => (match tru S1 x with | some b => .ok (.val (.bl b)) S1 | none => .bad) | .exc e S9 => .exc e S9 | .bad => .bad) := rfl
@[simp ↓] theorem ap_And {a b : CE} : cAnd a b ρ S = cIf a b (cB false) ρ S := rfl
@[simp ↓] theorem ap_Or {a b : CE} : cOr a b ρ S = cIf a (cB true) b ρ S := rfl
@[simp ↓] theorem ap_Not {a : CE} : cNot a ρ S = cIf a (cB false) (cB true) ρ S := rfl
@[simp ↓] theorem ap_sNil : sNil ρ S = .nx ρ S := rfl
@[simp ↓] theorem ap_sSeq {a b : CS} : sSeq a b ρ S = (match a ρ S with | .nx ρ' S' => b ρ' S' | r => r) := rfl
@[simp ↓] theorem ap_sAsg {t : CT} {c : CE} : sAsg t c ρ S = (match c ρ S with | .ok x S1 => (match t x ρ S1 with | some (ρ', S') => SRes.nx ρ' S' | none => .bad) | .exc e S9 => .exc e ρ S9 | .bad => .bad) := rfl
@[simp ↓] theorem ap_sExp {c : CE} : sExp c ρ S = (match c ρ S with | .ok _ S1 => (.nx ρ S1) | .exc e S9 => .exc e ρ S9 | .bad => .bad) := rfl
@[simp ↓] theorem ap_sRet {c : CE} : sRet c ρ S = (match c ρ S with | .ok x S1 => (.rt x S1) | .exc e S9 => .exc e ρ S9 | .bad => .bad) := rfl
@[simp ↓] theorem ap_sIf {c : CE} {a b : CS} : sIf c a b ρ S = (match c ρ S with | .ok x S1 => (match x with | .val (.bl true) => a ρ S1 | .val (.bl false) => b ρ S1 | _ => .bad) | .exc e S9 => .exc e ρ S9 | .bad => .bad) := rfl
@[simp ↓] theorem ap_sFor {ci : CI} {t : CT} {b : CS} : sFor ci t b ρ S = (match ci ρ S with | .ok xs S1 => forL (lb t b) xs ρ S1 | .exc e S1 => .exc e ρ S1 | .bad => .bad) := rfl
@[simp ↓] theorem ap_lb {t : CT} {b : CS} {d : D} : lb t b d ρ S = (match t (.val d) ρ S with | some (ρ', S') => b ρ' S' | none => .bad) := rfl
@[simp ↓] theorem ap_tgName {x : A} : tgName i x ρ S = some (ρ.set i (some x), S) := rfl
@[simp ↓] theorem ap_tgNil {ds : List D} : tgNil ds ρ S = if ds.isEmpty then some (ρ, S) else none := rfl
@[simp ↓] theorem ap_tgCons {t : CT} {u : List D → Slots → Store → Option (Slots × Store)} {ds : List D} : tgCons t u ds ρ S = (match ds with | d :: r => (match t (.val d) ρ S with | some (ρ', S') => u r ρ' S' | none => none) | [] => none) := rfl
@[simp ↓] theorem ap_tgTup {n : Nat} {u : List D → Slots → Store → Option (Slots × Store)} {x : A} : tgTup n u x ρ S = (match x with | .val (.tup ds) => (if ds.length = n then u ds ρ S else none) | .val (.wt ds) => (if ds.length = n then u ds ρ S else none) | _ => none) := rfl
end
noncomputable def tgAny (n : Nat) (u : List D → Slots → Store → Option (Slots × Store)) : CT := fun x ρ S => match (match x with
    | .val (.tup ds) => some ds
    | .val (.wt ds) => some ds
    | y => asL S y) with
  | some ds => if ds.length = n then u ds ρ S else none
  | none => none
noncomputable def gAny (K : PySem.W.Frag) (n : Nat) (gs : TGs) : TG := fun v σ H Q => gTup K n gs v σ H Q ∨ gUnl K n gs v σ H Q
section
variable {X : Cx} {cl : ClT}
theorem pg_any {es : List Expr} {k : Nat} {t : TGs} {n : Nat} {pos : Pos} (hc : X.calm = true) (h : PGs X es t) (hn : (assignEach es X.env).length = n := by rfl) (hst : (assignEach es X.env).findIdx? (·.1) = none := by rfl) : PG X (.Tuple es k pos) (gAny X.K n t) :=
  ⟨fun pins s σ H v u Q I r q => q.elim (fun q => (pg_tup hc h hn hst).run pins s σ H v u Q I r q) fun q => (pg_unl hc h hn hst).run pins s σ H v u Q I r q⟩
theorem tgAny_eq {n : Nat} {u : List D → Slots → Store → Option (Slots × Store)} {x : A} {ρ ρ' : Slots} {S S' : Store} (h : tgAny n u x ρ S = some (ρ', S')) : tgTup n u x ρ S = some (ρ', S') ∨ tgSeq n u x ρ S = some (ρ', S') := by
  unfold tgAny at h
  cases x with
  | ref i => exact .inr h
  | val d => cases d <;> first | exact .inl h | exact .inr h
theorem tg_any {n : Nat} {gs : TGs} {u : List D → Slots → Store → Option (Slots × Store)} (hs : TgsOk X.K cl gs u) : TgOk X.K cl (gAny X.K n gs) (tgAny n u) := by
  intro B H m S S' v x σ ρ ρ' Q o e r h k
  rcases tgAny_eq h with h | h
  · exact .inl (tg_tup hs o e r h k)
  · exact .inr (tg_seq hs o e r h k)
end
section
variable {ρ : Slots} {S S1 S2 : Store} {i j : Nat}
@[simp ↓] theorem ap_tgAny {n : Nat} {u : List D → Slots → Store → Option (Slots × Store)} {x : A} : tgAny n u x ρ S = (match (match x with | .val (.tup ds) => some ds | .val (.wt ds) => some ds | y => asL S y) with | some ds => if ds.length = n then u ds ρ S else none | none => none) := rfl
@[simp ↓] theorem ap_tgSub {co ci : CE} {x : A} : tgSub co ci x ρ S = (match co ρ S, x with | .ok (.ref j) S1, .val d => (match ci ρ S1 with | .ok (.val (.int k)) S2 => (match S2[j]? with | some (.lst ds) => (match ixN ds.length k with | some q => some (ρ, S2.set j (.lst (ds.set q d))) | none => none) | _ => none) | _ => none) | _, _ => none) := rfl
@[simp ↓] theorem ap_R1 {c : CE} : ciR1 c ρ S = (match c ρ S with | .ok (.val (.int j)) S1 => if decide (-1000000 ≤ j) && decide (j ≤ 1000000) then .ok (rangeD 0 j.toNat) S1 else .bad | .exc e S1 => .exc e S1 | _ => .bad) := rfl
@[simp ↓] theorem ap_R2 {c d : CE} : ciR2 c d ρ S = (match c ρ S with | .ok (.val (.int i)) S1 => (match d ρ S1 with | .ok (.val (.int j)) S2 => if decide (-1000000 ≤ i) && decide (i ≤ 1000000) && decide (-1000000 ≤ j) && decide (j ≤ 1000000) then .ok (rangeD i (j - i).toNat) S2 else .bad | .exc e S1 => .exc e S1 | _ => .bad) | .exc e S1 => .exc e S1 | _ => .bad) := rfl
@[simp ↓] theorem ap_ciV {c : CE} : ciV c ρ S = (match c ρ S with | .ok (.val (.lst ds)) S1 => .ok ds S1 | .ok (.val (.ro ds)) S1 => .ok ds S1 | .ok (.val (.tup ds)) S1 => .ok ds S1 | .ok (.val (.str s)) S1 => .ok (signsD s) S1 | .exc e S1 => .exc e S1 | _ => .bad) := rfl
@[simp ↓] theorem ap_B1 {f : List A → Store → Res} {c : CA} : cB1 f c ρ S = (match c ρ S with | .ok x9 S8 => (f x9 S8) | .exc e S9 => .exc e S9 | .bad => .bad) := rfl
@[simp ↓] theorem ap_Mt {ty : A → Store → Bool} {f : A → List A → Store → Res} {c : CE} {ca : CA} : cMt ty f c ca ρ S = (match c ρ S with | .ok x S1 => (if ty x S1 then (match ca ρ S1 with | .ok xs S2 => f x xs S2 | .exc e S9 => .exc e S9 | .bad => .bad) else .bad) | .exc e S9 => .exc e S9 | .bad => .bad) := rfl
@[simp ↓] theorem ap_Call {n : Nat} {ad : Bool} {f : Fn} {c : CA} : cCall n ad f c ρ S = (match c ρ S with | .ok xs S1 => (if xs.length = n then callIn ad f xs S1 else .bad) | .exc e S9 => .exc e S9 | .bad => .bad) := rfl
@[simp ↓] theorem ap_Call0 {ad : Bool} {f : Fn} : cCall0 ad f ρ S = callIn ad f [] S := rfl
@[simp ↓] theorem ap_CallK {n q : Nat} {ad : Bool} {perm : List Nat} {f : Fn} {c : CA} : cCallK n q ad perm f c ρ S = (match c ρ S with | .ok xs S1 => (if xs.length = q then (match pick xs perm with | some ys => if ys.length = n then callIn ad f ys S1 else .bad | none => .bad) else .bad) | .exc e S9 => .exc e S9 | .bad => .bad) := rfl
@[simp ↓] theorem ap_Isi {T : String} {c : CE} : cIsi T c ρ S = (match c ρ S with | .ok x S1 => (match tyD S1 x with | some t => .ok (.val (.bl (subT t T))) S1 | none => .bad) | .exc e S9 => .exc e S9 | .bad => .bad) := rfl
@[simp ↓] theorem ap_Lc {fr : Bool} {vs : List Nat} {ci : CI} {t : CT} {ct ce : CE} : cLc fr vs ci t ct ce ρ S = (match ci ρ S with | .ok xs S1 => (match lcGo (elm t ct ce (wipeR ρ vs)) xs S1 with | some (ds, S2) => if szOk ds.length then mkL fr ds S2 else .bad | none => .bad) | .exc e S1 => .exc e S1 | .bad => .bad) := rfl
@[simp ↓] theorem ap_elm {t : CT} {ct ce : CE} {d : D} : elm t ct ce ρ d S = (match t (.val d) ρ S with | some (ρ', S') => (match ct ρ' S' with | .ok (.val (.bl true)) S2 => (match ce ρ' S2 with | .ok (.val y) S3 => some (some y, S3) | _ => none) | .ok (.val (.bl false)) S2 => some (none, S2) | _ => none) | none => none) := rfl
@[simp ↓] theorem ap_Yes : cYes ρ S = .ok (.val (.bl true)) S := rfl
@[simp ↓] theorem ap_Sl {fr : Bool} {c : CE} {lo hi : Option CE} : cSl fr c lo hi ρ S = (match c ρ S with | .ok x S1 => (withO lo ρ S1 fun l S2 => withO hi ρ S2 fun u S3 => slD fr x l u S3) | .exc e S9 => .exc e S9 | .bad => .bad) := rfl
@[simp ↓] theorem ap_Star {c : CE} {r : CA} : cStar c r ρ S = (match c ρ S with | .ok x S1 => (match (match x with | .val (.tup ds) => some ds | y => asL S1 y) with | some ds => (match r ρ S1 with | .ok xs S2 => .ok (ds.map A.val ++ xs) S2 | .exc e S2 => .exc e S2 | .bad => .bad) | none => .bad) | .exc e S1 => .exc e S1 | .bad => .bad) := rfl
@[simp ↓] theorem ap_Par {c : CA} : sPar i j c ρ S = (match c ρ S with | .ok [x, y] S1 => .nx ((ρ.set i (some x)).set j (some y)) S1 | .ok _ _ => .bad | .exc e S1 => .exc e ρ S1 | .bad => .bad) := rfl
@[simp ↓] theorem ap_LenSet {c : CE} : cLenSet c ρ S = (match c ρ S with | .ok x S1 => (match (match x with | .val (.tup ds) => some ds | y => asL S1 y) with | some ds => (match intsOf ds with | some ns => (if decide (ns.length ≤ 1000) then .ok (.val (.int (dedupI ns).length)) S1 else .bad) | none => .bad) | none => .bad) | .exc e S9 => .exc e S9 | .bad => .bad) := rfl
@[simp ↓] theorem ap_Chain {f g : A → A → Store → Res} {ca cb cc : CE} : cChain f g ca cb cc ρ S = (match ca ρ S with | .ok x S1 => (match cb ρ S1 with | .ok y S2 => (match f x y S2 with | .ok z S3 => (match z with | .val (.bl true) => (match cc ρ S3 with | .ok w S4 => g y w S4 | .exc e S9 => .exc e S9 | .bad => .bad) | .val (.bl false) => .ok (.val (.bl false)) S3 | _ => .bad) | .exc e S9 => .exc e S9 | .bad => .bad) | .exc e S9 => .exc e S9 | .bad => .bad) | .exc e S9 => .exc e S9 | .bad => .bad) := rfl
end
section
variable {S : Store} {i j : Nat}
@[simp] theorem add_int {fr : Bool} {a b : Int} : fAdd fr (.val (.int a)) (.val (.int b)) S = .ok (.val (.int (a + b))) S := rfl
@[simp] theorem add_str {fr : Bool} {a b : Str} : fAdd fr (.val (.str a)) (.val (.str b)) S = if szOk (a.length + b.length) then .ok (.val (.str (a ++ b))) S else .bad := rfl
@[simp] theorem add_tup {fr : Bool} {a b : List D} : fAdd fr (.val (.tup a)) (.val (.tup b)) S = if szOk (a.length + b.length) then .ok (.val (.tup (a ++ b))) S else .bad := rfl
@[simp] theorem add_lst {fr : Bool} {a b : List D} : fAdd fr (.val (.lst a)) (.val (.lst b)) S = if szOk (a.length + b.length) then mkL fr (a ++ b) S else .bad := rfl
@[simp] theorem add_ref {fr : Bool} {b : List D} : fAdd fr (.ref i) (.val (.lst b)) S = (match asM S (.ref i) with | some a => if szOk (a.length + b.length) then mkL fr (a ++ b) S else .bad | none => .bad) := by
  show (match asM S (.ref i), (some b : Option (List D)) with | some a, some b => if szOk (a.length + b.length) then mkL fr (a ++ b) S else .bad | _, _ => .bad) = _
  cases h : asM S (.ref i) <;> rfl
@[simp] theorem mul_int {fr : Bool} {a b : Int} : fMul fr (.val (.int a)) (.val (.int b)) S = if mulOk a b then .ok (.val (.int (a * b))) S else .bad := rfl
@[simp] theorem mul_tup {fr : Bool} {a : List D} {k : Int} : fMul fr (.val (.tup a)) (.val (.int k)) S = if decide (k = 1) then .ok (.val (.tup a)) S else if !a.isEmpty && decide (2 ≤ k) && decide (k ≤ 1000) && decide (a.length ≤ 1000) then .ok (.val (.tup (List.replicate k.toNat a).flatten)) S else .bad := rfl
@[simp] theorem mul_lst {fr : Bool} {a : List D} {k : Int} : fMul fr (.val (.lst a)) (.val (.int k)) S = if decide (-1000000 ≤ k) && decide (k ≤ 1000000) && szOk (a.length * k.toNat) then mkL fr (List.replicate k.toNat a).flatten S else .bad := rfl
@[simp] theorem i2_int {c : Int → Int → Bool} {g : Int → Int → D} {a b : Int} : fI2 c g (.val (.int a)) (.val (.int b)) S = if c a b then .ok (.val (g a b)) S else .bad := rfl
@[simp] theorem ix_str {s : Str} {k : Int} : fIx (.val (.str s)) (.val (.int k)) S = if szOk s.length then (match (ixN s.cps.toList.length k).bind fun j => s.cps.toList[j]? with
      | some c => .ok (.val (.str ⟨#[c]⟩)) S
      | none => .bad) else .bad := rfl
@[simp] theorem ix_tup' {ds : List D} {k : Int} : fIx (.val (.tup ds)) (.val (.int k)) S = (match (ixN ds.length k).bind fun j => ds[j]? with
      | some d => .ok (.val d) S
      | none => .bad) := rfl
@[simp] theorem ix_lst {ds : List D} {k : Int} : fIx (.val (.lst ds)) (.val (.int k)) S = (match (ixN ds.length k).bind fun j => ds[j]? with
      | some d => .ok (.val d) S
      | none => .bad) := rfl
@[simp] theorem ix_ro {ds : List D} {k : Int} : fIx (.val (.ro ds)) (.val (.int k)) S = (match (ixN ds.length k).bind fun j => ds[j]? with
      | some d => .ok (.val d) S
      | none => .bad) := rfl
@[simp] theorem ix_ref {k : Int} : fIx (.ref i) (.val (.int k)) S = (match asL S (.ref i) with
      | some ds => (match (ixN ds.length k).bind fun j => ds[j]? with
        | some d => .ok (.val d) S
        | none => .bad)
      | none => .bad) := rfl
@[simp] theorem len_str {s : Str} : fLen [.val (.str s)] S = if szOk s.length then .ok (.val (.int s.length)) S else .bad := rfl
@[simp] theorem len_tup {ds : List D} : fLen [.val (.tup ds)] S = .ok (.val (.int ds.length)) S := rfl
@[simp] theorem len_lst {ds : List D} : fLen [.val (.lst ds)] S = .ok (.val (.int ds.length)) S := rfl
@[simp] theorem len_ro {ds : List D} : fLen [.val (.ro ds)] S = .ok (.val (.int ds.length)) S := rfl
@[simp] theorem tuple_tup {ds : List D} : fTuple [.val (.tup ds)] S = .ok (.val (.tup ds)) S := rfl
@[simp] theorem tuple_lst {ds : List D} : fTuple [.val (.lst ds)] S = .ok (.val (.tup ds)) S := rfl
@[simp] theorem all_lst {ds : List D} : fAll [.val (.lst ds)] S = (match boolsOf ds with
      | some bs => .ok (.val (.bl (bs.all id))) S
      | none => .bad) := rfl
@[simp] theorem any_lst {ds : List D} : fAny [.val (.lst ds)] S = (match boolsOf ds with
      | some bs => .ok (.val (.bl (bs.any id))) S
      | none => .bad) := rfl
@[simp] theorem str_int {k : Int} : fStr [.val (.int k)] S = if decide (k.natAbs.log2 < 1920) then .ok (.val (.str (toString k : String))) S else .bad := rfl
@[simp] theorem int_int {k : Int} : fInt [.val (.int k)] S = .ok (.val (.int k)) S := rfl
@[simp] theorem int_str {s : Str} : fInt [.val (.str s)] S = (match PySem.intText? s with
    | some n => if decide (s.length ≤ 640) then .ok (.val (.int n)) S else .bad
    | none => .bad) := rfl
@[simp] theorem abs_int {k : Int} : fAbs [.val (.int k)] S = .ok (.val (.int (if k < 0 then -k else k))) S := rfl
@[simp] theorem max_int {a b : Int} : fMax2 [.val (.int a), .val (.int b)] S = .ok (.val (.int (if b > a then b else a))) S := rfl
@[simp] theorem min_int {a b : Int} : fMin2 [.val (.int a), .val (.int b)] S = .ok (.val (.int (if b < a then b else a))) S := rfl
@[simp] theorem dm_int {a b : Int} : fDivmod [.val (.int a), .val (.int b)] S = if decide (0 < b) && decide (b < 1073741824) then .ok (.val (.tup [.int (a / b), .int (a % b)])) S else .bad := rfl
@[simp] theorem app_ref {d : D} : fAppend (.ref i) [.val d] S = (match S[i]? with
    | some (.lst ds) => if szOk ds.length then .ok (.val .non) (S.set i (.lst (ds ++ [d]))) else .bad
    | _ => .bad) := rfl
@[simp] theorem withO_n {ρ : Slots} {f : Option Int → Store → Res} : withO none ρ S f = f none S := rfl
@[simp ↓] theorem withO_s {ρ : Slots} {c : CE} {f : Option Int → Store → Res} : withO (some c) ρ S f = (match c ρ S with | .ok x S1 => (match x with | .val (.int i) => f (some i) S1 | _ => .bad) | .exc e S9 => .exc e S9 | .bad => .bad) := rfl
@[simp] theorem sl_str {fr : Bool} {s : Str} {l u : Option Int} : slD fr (.val (.str s)) l u S = if szOk s.length then .ok (.val (.str (cutS s l u))) S else .bad := rfl
@[simp] theorem sl_tup {fr : Bool} {ds : List D} {l u : Option Int} : slD fr (.val (.tup ds)) l u S = .ok (.val (.tup (cutD ds l u))) S := rfl
@[simp] theorem sl_lst {fr : Bool} {ds : List D} {l u : Option Int} : slD fr (.val (.lst ds)) l u S = mkL fr (cutD ds l u) S := rfl
@[simp] theorem sl_ro {fr : Bool} {ds : List D} {l u : Option Int} : slD fr (.val (.ro ds)) l u S = mkL fr (cutD ds l u) S := rfl
@[simp] theorem ixN_lit0 {n : Nat} : ixN (n + 1) 0 = some 0 := by unfold ixN; rw [if_pos (by omega), if_pos (by omega)]; rfl
@[simp] theorem ixN_lit1 {n : Nat} : ixN (n + 2) 1 = some 1 := by unfold ixN; rw [if_pos (by omega), if_pos (by omega)]; rfl
@[simp] theorem ixN_lit2 {n : Nat} : ixN (n + 3) 2 = some 2 := by unfold ixN; rw [if_pos (by omega), if_pos (by omega)]; rfl
theorem ixN_nat {n k : Nat} (h : k < n) : ixN n (k : Int) = some k := by unfold ixN; rw [if_pos (by omega), if_pos (by omega)]; rfl
theorem ixN_int {n : Nat} {k : Int} (h0 : 0 ≤ k) (h : k < n) : ixN n k = some k.toNat := by unfold ixN; rw [if_pos h0, if_pos h]
end
section
variable {S : Store} {ρ : Slots} {d : D} {ds : List D} {i : Nat} {xs : List A} {a b : Str} {k : Int} {x : A}
@[simp] theorem vo_nil : valsOf [] = some [] := rfl
@[simp] theorem vo_val : valsOf (.val d :: xs) = (valsOf xs).map (d :: ·) := rfl
@[simp] theorem vo_ref : valsOf (.ref i :: xs) = none := rfl
@[simp] theorem asL_lst : asL S (.val (.lst ds)) = some ds := rfl
@[simp] theorem asL_ro : asL S (.val (.ro ds)) = some ds := rfl
@[simp] theorem asL_ref : asL S (.ref i) = (match S[i]? with | some (.lst ds) => some ds | _ => none) := rfl
@[simp] theorem asL_tup : asL S (.val (.tup ds)) = none := rfl
@[simp] theorem asL_str : asL S (.val (.str a)) = none := rfl
@[simp] theorem asL_int : asL S (.val (.int k)) = none := rfl
@[simp] theorem asL_non : asL S (.val .non) = none := rfl
@[simp] theorem asM_lst : asM S (.val (.lst ds)) = some ds := rfl
@[simp] theorem asM_ref : asM S (.ref i) = (match S[i]? with | some (.lst ds) => some ds | _ => none) := rfl
@[simp] theorem tru_non : tru S (.val .non) = some false := rfl
@[simp] theorem tru_bl {c : Bool} : tru S (.val (.bl c)) = some c := rfl
@[simp] theorem tru_int : tru S (.val (.int k)) = some (k != 0) := rfl
@[simp] theorem tru_str : tru S (.val (.str a)) = if szOk a.length then some (a.length != 0) else none := rfl
@[simp] theorem tru_tup : tru S (.val (.tup ds)) = some (!ds.isEmpty) := rfl
@[simp] theorem tru_lst : tru S (.val (.lst ds)) = some (!ds.isEmpty) := rfl
@[simp] theorem tru_ro : tru S (.val (.ro ds)) = some (!ds.isEmpty) := rfl
@[simp] theorem tru_ref : tru S (.ref i) = (match asL S (.ref i) with | some ds => some (!ds.isEmpty) | none => none) := rfl
@[simp] theorem wipe_nil : wipeR ρ [] = ρ := rfl
@[simp] theorem wipe_cons {v : Nat} {vs : List Nat} : wipeR ρ (v :: vs) = (wipeR ρ vs).set v none := rfl
@[simp] theorem ret_nx : retF (.nx ρ S) = .ok (.val .non) S := rfl
@[simp] theorem ret_rt : retF (.rt x S) = .ok x S := rfl
@[simp] theorem ret_exc {e : X0} : retF (.exc e ρ S) = .exc e S := rfl
@[simp] theorem ret_bad : retF .bad = .bad := rfl
@[simp] theorem pick_nil : pick xs [] = some [] := rfl
@[simp] theorem pick_cons {r : List Nat} : pick xs (i :: r) = (match xs[i]?, pick xs r with | some x, some t => some (x :: t) | _, _ => none) := rfl
@[simp] theorem tyD_non : tyD S (.val .non) = some "NoneType" := rfl
@[simp] theorem tyD_bl {c : Bool} : tyD S (.val (.bl c)) = some "bool" := rfl
@[simp] theorem tyD_int : tyD S (.val (.int k)) = some "int" := rfl
@[simp] theorem tyD_str : tyD S (.val (.str a)) = some "str" := rfl
@[simp] theorem tyD_tup : tyD S (.val (.tup ds)) = some "tuple" := rfl
@[simp] theorem tyD_lst : tyD S (.val (.lst ds)) = some "list" := rfl
@[simp] theorem tyD_ro : tyD S (.val (.ro ds)) = some "list" := rfl
@[simp] theorem subT_eq {t T : String} : subT t T = (t == T || (t == "bool" && T == "int")) := rfl
@[simp] theorem tyL_eq : tyL x S = (asL S x).isSome := rfl
@[simp] theorem tyS_str : tyS (.val (.str a)) S = true := rfl
@[simp] theorem getAll_nil : getAll S [] = some [] := rfl
@[simp] theorem getAll_cons {r : List Nat} : getAll S (i :: r) = (match S[i]?, getAll S r with | some o, some t => some (o :: t) | _, _ => none) := rfl
@[simp] theorem refs_nil : refsOf [] = [] := rfl
@[simp] theorem refs_ref : refsOf (.ref i :: xs) = i :: refsOf xs := rfl
@[simp] theorem refs_val : refsOf (.val d :: xs) = refsOf xs := rfl
@[simp] theorem renum_nil {n : Nat} : renum n [] = [] := rfl
@[simp] theorem renum_ref {n : Nat} : renum n (.ref i :: xs) = .ref n :: renum (n + 1) xs := rfl
@[simp] theorem renum_val {n : Nat} : renum n (.val d :: xs) = .val d :: renum n xs := rfl
@[simp] theorem bo_nil : boolsOf [] = some [] := rfl
@[simp] theorem bo_cons {c : Bool} : boolsOf (.bl c :: ds) = (boolsOf ds).map (c :: ·) := rfl
@[simp] theorem io_nil : intsOf [] = some [] := rfl
@[simp] theorem io_cons : intsOf (.int k :: ds) = (intsOf ds).map (k :: ·) := rfl
@[simp] theorem so_nil : strsOf [] = some [] := rfl
@[simp] theorem so_cons : strsOf (.str a :: ds) = (strsOf ds).map (a :: ·) := rfl
end
end T3
namespace T3
open PySem PySem.Spec PyProof.Rows L2
noncomputable def forR (b : D → CS) (j : Nat) : Nat → Nat → CS
  | 0, _, _, _ => .bad
  | n + 1, i, ρ, S => match S[j]? with
    | some (.lst ds) => (match ds[i]? with
      | none => .nx ρ S
      | some d => (match b d ρ S with
        | .nx ρ' S' => forR b j n (i + 1) ρ' S'
        | .ct ρ' S' => forR b j n (i + 1) ρ' S'
        | .bk ρ' S' => .nx ρ' S'
        | q => q))
    | _ => .bad
noncomputable def lenAt (S : Store) (j : Nat) : Nat := match S[j]? with
  | some (.lst ds) => ds.length
  | _ => 0
noncomputable def sForV (c : CE) (t : CT) (b : CS) : CS := fun ρ S => match c ρ S with
  | .ok (.ref j) S1 => forR (lb t b) j (lenAt S1 j + 1) 0 ρ S1
  | _ => sFor (ciV c) t b ρ S
noncomputable def lcR (f : Elm) (j : Nat) : Nat → Nat → Store → Option (List D × Store)
  | 0, _, _ => none
  | n + 1, i, S => match S[j]? with
    | some (.lst ds) => (match ds[i]? with
      | none => some ([], S)
      | some d => (match f d S with
        | some (some y, S') => (match lcR f j n (i + 1) S' with
          | some (ys, S2) => some (y :: ys, S2)
          | none => none)
        | some (none, S') => lcR f j n (i + 1) S'
        | none => none))
    | _ => none
noncomputable def cLcV (fr : Bool) (vs : List Nat) (c : CE) (t : CT) (ct ce : CE) : CE := fun ρ S => match c ρ S with
  | .ok (.ref j) S1 => (match lcR (elm t ct ce (wipeR ρ vs)) j (lenAt S1 j + 1) 0 S1 with
    | some (ds, S2) => if szOk ds.length then mkL fr ds S2 else .bad
    | none => .bad)
  | _ => cLc fr vs (ciV c) t ct ce ρ S
section
variable {X : Cx} {cl : ClT} {W : WX}
theorem pre_step {H H' : Hp} {m m' : List Addr} (s : Step H m H' m') {i : Nat} {a : Addr} (h : m[i]? = some a) : m'[i]? = some a := by
  obtain ⟨r, rfl, _⟩ := s.ext
  rw [List.getElem?_append_left (List.getElem?_eq_some_iff.mp h).1]
  exact h
/-- the reading where the source is a list of the store -/
noncomputable def tRef (K : PySem.W.Frag) (cl : ClT) (W : WX) (c : CE) : TI := fun σ H R => ∃ B m S ρ j S1, Ok K cl B H m S ∧ EnvOk K cl (NN B m) H m σ ρ ∧ c ρ S = .ok (.ref j) S1 ∧ (∃ ds, S1[j]? = some (.lst ds)) ∧
  ∀ H' m' a, Step H m H' m' → Ok K cl B H' m' S1 → m'[j]? = some a → R (Itl K a) H'
noncomputable def tMV (K : PySem.W.Frag) (cl : ClT) (W : WX) (c : CE) : TI := fun σ H R => tMI K cl W (ciV c) σ H R ∨ tRef K cl W c σ H R
theorem tRef_ok {c : CE} {σ : L2.St} {H : Hp} {R : It → Hp → Prop} (h : tRef X.K cl W c σ H R) : iList X.K (tM X.K cl W c) σ H R := by
  obtain ⟨B, m, S, ρ, j, S1, o, e, hc, ⟨ds, hs⟩, k⟩ := h
  refine ⟨B, m, S, ρ, o, e, ?_⟩
  rw [hc]
  intro v H1 m1 s1 o1 r1
  obtain ⟨a, ha, rfl⟩ := r1
  obtain ⟨xs, e1, _⟩ := o1.obj j a _ ha hs
  exact ⟨a, rfl, ⟨xs, .of e1⟩, k H1 m1 a s1 o1 ha⟩
theorem pi_vv {tg e : Expr} {c : CE} (he : PE X e (tM X.K cl W c)) : PI X tg e (tMV X.K cl W c) :=
  PI.or (pi_v he) (PI.imp (pi_list he) fun _ _ _ h => tRef_ok h)
theorem at_ref {B : Addr → Prop} {H : Hp} {m : List Addr} {S : Store} {j : Nat} {a : Addr} {ds : List D} (o : Ok X.K cl B H m S) (ha : m[j]? = some a) (hs : S[j]? = some (.lst ds)) : ∃ xs, SqL X.K H a xs ∧ RepL X.K cl (NN B m) H xs ds ∧ H a = some (.lst xs) := by
  obtain ⟨xs, e1, r⟩ := o.obj j a _ ha hs
  exact ⟨xs, .of e1, r, e1⟩
theorem tForV_ok {c : CE} {g : TG} {t : CT} {b : CS} (hg : TgOk X.K cl g t) {E : Ends} {σ : L2.St} {H : Hp} (h : tMS X.K cl W (sForV c t b) E σ H) : tFor (tMV X.K cl W c) g (tMS X.K cl W b) E σ H := by
  have h0 := h
  obtain ⟨B, m, S, ρ, o, e, fin⟩ := h
  unfold sForV at fin
  split at fin
  rotate_left
  · have h1 : tMS X.K cl W (sFor (ciV c) t b) E σ H := ⟨B, m, S, ρ, o, e, fin⟩
    exact .inl (tFor_ok hg h1)
  · rename_i j S1 hc
    have hds : ∃ ds, S1[j]? = some (.lst ds) := by
      unfold forR at fin
      split at fin
      · rename_i ds hs
        exact ⟨ds, hs⟩
      · exact fin.elim
    refine .inr ⟨B, m, S, ρ, j, S1, o, e, hc, hds, fun H1 m1 a s1 o1 ha => ?_⟩
    refine ⟨fun i n σ H => ∃ m S ρ, Ok X.K cl B H m S ∧ EnvOk X.K cl (NN B m) H m σ ρ ∧ m[j]? = some a ∧ FinS X.K cl B H m W (forR (lb t b) j n i ρ S) E,
      ⟨lenAt S1 j + 1, m1, S1, ρ, o1, s1.env o e, ha, FinS.step s1 fin⟩, ?_⟩
    rintro i n σ2 H2 ⟨m2, S2, ρ2, o2, e2, ha2, f2⟩
    cases n with
    | zero => exact f2.elim
    | succ n =>
      unfold forR at f2
      split at f2
      rotate_left
      · exact f2.elim
      · rename_i ds hs
        obtain ⟨xs, q, rl, ea⟩ := at_ref o2 ha2 hs
        split at f2
        · rename_i hi
          refine .inl ⟨⟨xs, q, ?_⟩, f2.here o2 e2⟩
          rw [rl.length]
          exact List.getElem?_eq_none_iff.mp hi
        · rename_i d hd
          obtain ⟨v, hv, rv⟩ := rl.got hd
          refine .inr ⟨⟨xs, v, q, hv⟩, fun σ H => ∃ m S ρ, Ok X.K cl B H m S ∧ EnvOk X.K cl (NN B m) H m σ ρ ∧ m[j]? = some a ∧ FinS X.K cl B H m W (forR (lb t b) j n (i + 1) ρ S) E,
            fun σ' H' hn => ⟨n, Nat.lt_succ_self n, hn⟩, fun y H3 hy => ?_⟩
          obtain ⟨rfl, hy⟩ := hy
          have ey := hy xs q
          rw [hv] at ey
          cases ey
          cases ht : t (.val d) ρ2 S2 with
          | none =>
            have hb : lb t b d ρ2 S2 = .bad := by show (match t (.val d) ρ2 S2 with | some (ρ', S') => b ρ' S' | none => .bad) = _; rw [ht]
            rw [hb] at f2
            exact f2.elim
          | some z =>
            obtain ⟨ρ4, S4⟩ := z
            have hb : lb t b d ρ2 S2 = b ρ4 S4 := by show (match t (.val d) ρ2 S2 with | some (ρ', S') => b ρ' S' | none => .bad) = _; rw [ht]
            rw [hb] at f2
            refine hg (x := .val d) o2 e2 rv ht fun σ4 H4 m4 s4 o4 e4 => ⟨B, m4, S4, ρ4, o4, e4, ?_⟩
            have f4 := FinS.step s4 f2
            have ha4 := pre_step s4 ha2
            cases hr : b ρ4 S4 with
            | bad => rw [hr] at f4; exact f4
            | exc e' ρ' S' => rw [hr] at f4; exact f4
            | rt x S' => rw [hr] at f4; exact f4
            | nx ρ' S' => rw [hr] at f4; exact fun σ' H' m' s' o' e' => ⟨m', S', ρ', o', e', pre_step s' ha4, FinS.step s' f4⟩
            | ct ρ' S' => rw [hr] at f4; exact fun σ' H' m' s' o' e' => ⟨m', S', ρ', o', e', pre_step s' ha4, FinS.step s' f4⟩
            | bk ρ' S' => rw [hr] at f4; exact fun σ' H' m' s' o' e' => f4 σ' H' m' s' o' e'
theorem pm_forV {tg iter : Expr} {body : List Stmt} {c : CE} {g : TG} {t : CT} {b : CS} {pos : Pos} (hp : PassesOwn (model X.prog X.w) X.A X.env X.xe) (hc : X.calm = true) (he : PE X iter (tM X.K cl W c)) (hg : PG X tg g) (ht : TgOk X.K cl g t) (hb : PSs X body (tMS X.K cl W b))
    (hs : ∀ x, foldedSetIterable iter X.env x = pure x := by intro _; rfl) : PS X (.For tg iter body [] pos) (tMS X.K cl W (sForV c t b)) := PS.imp (ps_for hp hc (pi_vv he) hg hb hs) fun _ _ _ h => tForV_ok ht h
theorem tLcV_ok {fr : Bool} {vs : List Nat} {c : CE} {g : TG} {t : CT} {ct ce : CE} (hg : TgC X.K cl vs g t) {tt : TT} (htt : ∀ σ H Q, tMT X.K cl W0 ct σ H Q → tt σ H Q) {σ : L2.St} {H : Hp} {Q : VK} (h : tM X.K cl W (cLcV fr vs c t ct ce) σ H Q) :
    tLc (tMV X.K cl W c) g tt (tM X.K cl W0 ce) vs σ H Q := by
  obtain ⟨B, m, S, ρ, o, e, fin⟩ := h
  unfold cLcV at fin
  split at fin
  rotate_left
  · have h1 : tM X.K cl W (cLc fr vs (ciV c) t ct ce) σ H Q := ⟨B, m, S, ρ, o, e, fin⟩
    exact .inl (tLc_ok hg htt h1)
  rename_i j S1 hcj
  split at fin
  rotate_left
  · exact fin.elim
  rename_i ds S2 hgo
  split at fin
  rotate_left
  · exact fin.elim
  rename_i hz
  have hds : ∃ ds, S1[j]? = some (.lst ds) := by
    unfold lcR at hgo
    split at hgo
    · rename_i ds hs
      exact ⟨ds, hs⟩
    · cases hgo
  refine .inr ⟨B, m, S, ρ, j, S1, o, e, hcj, hds, fun H1 m1 a s1 o1 ha => ?_⟩
  intro D hD
  have fin1 := Fin.step s1 fin
  have hB : ¬ B D := fun z => (o1.foreign D z).1 hD
  have e1 := s1.env o e
  have e1' : EnvOk X.K cl (NN (BD B D) m1) (upd H1 D (.lst [])) m1 σ ρ := e1.mono (Kp.born hD) ⟨[], by simp⟩
  refine ⟨fun i n H => ∃ m S acc av rest, Step H1 m1 H m ∧ Ok X.K cl (BD B D) H m S ∧ EnvOk X.K cl (NN (BD B D) m) H m σ ρ ∧ m[j]? = some a ∧ H D = some (.lst av) ∧ RepL X.K cl (NN (BD B D) m) H av acc ∧
      lcR (elm t ct ce (wipeR ρ vs)) j n i S = some (rest, S2) ∧ ds = acc ++ rest,
    ⟨lenAt S1 j + 1, m1, S1, [], [], ds, Step.new hD, o1.born hD, e1', ha, upd_same, .nil, hgo, rfl⟩, ?_⟩
  rintro i n H2 ⟨m2, S3, acc, av, rest, st2, o2, e2, ha2, hd2, ra2, go2, eds⟩
  cases n with
  | zero => cases go2
  | succ n =>
  unfold lcR at go2
  split at go2
  rotate_left
  · cases go2
  rename_i ys hs
  obtain ⟨xs, q, rl, ea⟩ := at_ref o2 ha2 hs
  split at go2
  · rename_i hi
    cases go2
    rw [List.append_nil] at eds
    subst eds
    refine .inl ⟨⟨xs, q, ?_⟩, born_end hD st2 o2 hd2 ra2 hB fin1⟩
    rw [rl.length]
    exact List.getElem?_eq_none_iff.mp hi
  rename_i d hd
  obtain ⟨v, hv, r3⟩ := rl.got hd
  refine .inr ⟨⟨xs, v, q, hv⟩, fun H => ∃ m S acc av rest, Step H1 m1 H m ∧ Ok X.K cl (BD B D) H m S ∧ EnvOk X.K cl (NN (BD B D) m) H m σ ρ ∧ m[j]? = some a ∧ H D = some (.lst av) ∧ RepL X.K cl (NN (BD B D) m) H av acc ∧
      lcR (elm t ct ce (wipeR ρ vs)) j n (i + 1) S = some (rest, S2) ∧ ds = acc ++ rest, fun H' hn => ⟨n, Nat.lt_succ_self n, hn⟩, fun y H3 hy => ?_⟩
  obtain ⟨rfl, hy⟩ := hy
  have ey := hy xs q
  rw [hv] at ey
  cases ey
  have hDm : D ∉ m2 := (o2.foreign D (.inr rfl)).2
  have he : ∃ ρ4, t (.val d) (wipeR ρ vs) S3 = some (ρ4, S3) ∧ ((∃ y S5 S6 zs, ct ρ4 S3 = .ok (.val (.bl true)) S5 ∧ ce ρ4 S5 = .ok (.val y) S6 ∧ lcR (elm t ct ce (wipeR ρ vs)) j n (i + 1) S6 = some (zs, S2) ∧ rest = y :: zs) ∨
      ∃ S5, ct ρ4 S3 = .ok (.val (.bl false)) S5 ∧ lcR (elm t ct ce (wipeR ρ vs)) j n (i + 1) S5 = some (rest, S2)) ∨ ∃ ρ4 S4, t (.val d) (wipeR ρ vs) S3 = some (ρ4, S4) ∧ S4 ≠ S3 := by
    have go3 : (∃ y S' zs, elm t ct ce (wipeR ρ vs) d S3 = some (some y, S') ∧ lcR (elm t ct ce (wipeR ρ vs)) j n (i + 1) S' = some (zs, S2) ∧ rest = y :: zs) ∨ ∃ S', elm t ct ce (wipeR ρ vs) d S3 = some (none, S') ∧ lcR (elm t ct ce (wipeR ρ vs)) j n (i + 1) S' = some (rest, S2) := by
      split at go2
      · rename_i y S' h1
        split at go2
        · rename_i zs S5 h2
          cases go2
          exact .inl ⟨y, S', zs, h1, h2, rfl⟩
        · cases go2
      · rename_i S' h1
        exact .inr ⟨S', h1, go2⟩
      · cases go2
    rcases go3 with ⟨y, S', zs, h1, h2, h3⟩ | ⟨S', h1, h2⟩
    all_goals
      unfold elm at h1
      cases ht : t (.val d) (wipeR ρ vs) S3 with
      | none => rw [ht] at h1; cases h1
      | some q =>
        obtain ⟨ρ4, S4⟩ := q
        rw [ht] at h1
        dsimp only at h1
        by_cases hS : S4 = S3
        · subst hS
          refine ⟨ρ4, .inl ⟨rfl, ?_⟩⟩
          cases hc : ct ρ4 S4 with
          | bad => rw [hc] at h1; cases h1
          | exc _ _ => rw [hc] at h1; cases h1
          | ok x S5 =>
            rw [hc] at h1
            cases x with
            | ref _ => cases h1
            | val z =>
              cases z with
              | bl b =>
                cases b with
                | true =>
                  dsimp only at h1
                  cases hv : ce ρ4 S5 with
                  | bad => rw [hv] at h1; cases h1
                  | exc _ _ => rw [hv] at h1; cases h1
                  | ok w S6 =>
                    rw [hv] at h1
                    cases w with
                    | ref _ => cases h1
                    | val w => first | (cases h1; exact .inl ⟨_, S5, _, zs, rfl, hv, h2, h3⟩) | cases h1
                | false => first | (cases h1; exact .inr ⟨_, rfl, h2⟩) | cases h1
              | _ => cases h1
        · exact ⟨ρ4, .inr ⟨ρ4, S4, rfl, hS⟩⟩
  obtain ⟨ρ4, he⟩ := he
  rcases he with ⟨ht, he⟩ | ⟨ρ5, S4, ht, hne⟩
  rotate_left
  · exact hg (x := .val d) o2 (e2.wipe vs) r3 ht fun σ' _ q _ => absurd q hne
  refine hg (x := .val d) o2 (e2.wipe vs) r3 ht fun σ4 w4 _ e4 => ⟨w4.trans (wipe_wipe fun i h => h), ?_⟩
  rcases he with ⟨y, S5, S6, zs, hc, hv, hgo', hr⟩ | ⟨S5, hc, hgo'⟩
  · refine htt _ _ _ ⟨BD B D, m2, S3, ρ4, o2, e4, ?_⟩
    rw [hc]
    intro H5 m5 s5 o5
    refine iteT ⟨BD B D, m5, S5, ρ4, o5, s5.env o2 e4, ?_⟩
    rw [hv]
    intro u H6 m6 s6 o6 r6
    have s56 := s5.trans s6
    have hD6 : D ∉ m6 := (o6.foreign D (.inr rfl)).2
    have hd6 : H6 D = some (.lst av) := s56.kept D _ hd2 hDm
    have kp6 : Kp (NN (BD B D) m2) (NN (BD B D) m6) H3 H6 := s56.kp fun a h => (o2.foreign a h).2
    have ex6 : ∃ r, m6 = m2 ++ r := let ⟨r, h, _⟩ := s56.ext; ⟨r, h⟩
    have ra6 := ra2.mono kp6
    have kg : Kp (NN (BD B D) m6) (NN (BD B D) m6) H6 (upd H6 D (.lst (av ++ [u]))) := kp_at (.inl (.inr rfl)) fun b hb => upd_ne hb
    have hlen : av.length < sizeLine := by
      rw [ra6.length]
      have := of_decide_eq_true hz
      rw [eds, List.length_append, hr, List.length_cons] at this
      exact Nat.lt_of_lt_of_le (by omega : acc.length < 16000000) (by decide)
    refine ⟨av, hd6, hlen, m6, S6, acc ++ [y], av ++ [u], zs, ?_, o6.grow hd6, (e2.mono kp6 ex6).mono kg ⟨[], by simp⟩, pre_step s56 ha2, upd_same, (ra6.append (.cons r6 .nil)).mono kg, hgo', by rw [eds, hr]; simp⟩
    have st6 := st2.trans s56
    refine ⟨st6.ext, fun a z hz hn nt => ?_, fun a hn => ?_⟩
    · rw [upd_ne fun q => by rw [q, hD] at hz; cases hz]; exact st6.keep a z hz hn nt
    · by_cases q : a = D
      · rw [q, upd_same]; exact fun z => by cases z
      · rw [upd_ne q]; exact st6.stay a hn
  · refine htt _ _ _ ⟨BD B D, m2, S3, ρ4, o2, e4, ?_⟩
    rw [hc]
    intro H5 m5 s5 o5
    have kp5 : Kp (NN (BD B D) m2) (NN (BD B D) m5) H3 H5 := s5.kp fun a h => (o2.foreign a h).2
    have ex5 : ∃ r, m5 = m2 ++ r := let ⟨r, h, _⟩ := s5.ext; ⟨r, h⟩
    exact iteF ⟨m5, S5, acc, av, rest, st2.trans s5, o5, e2.mono kp5 ex5, pre_step s5 ha2, s5.kept D _ hd2 hDm, ra2.mono kp5, hgo', eds⟩
theorem pm_lcV (fr : Bool) {elt tg iter : Expr} {ifs : List Expr} {scope : Scope} {own : List (Str × Nat)} {pos : Pos} {c : CE} {g : TG} {t : CT} {ct ce : CE} {tt : TT} (hc : X.calm = true) (hN : X.N.Nodup) (hi : PE X iter (tM X.K cl W c)) (ok : BlkOk X.N X.env.scope scope own)
    (hg : ∀ (s : Shared) (H : Hp) (C : Addr) (cl' : List (Str × Addr)) (fp : List Addr), PG (X.blk s H scope (compEnvC scope cl' C X.env) fp) tg g) (hgo : TgC X.K cl (own.map (·.2)) g t)
    (ht : ∀ (s : Shared) (H : Hp) (C : Addr) (cl' : List (Str × Addr)) (fp : List Addr), PTs (X.blk s H scope (compEnvC scope cl' C X.env) fp) ifs tt) (hto : ∀ σ H Q, tMT X.K cl W0 ct σ H Q → tt σ H Q)
    (he : ∀ (s : Shared) (H : Hp) (C : Addr) (cl' : List (Str × Addr)) (fp : List Addr), PE (X.blk s H scope (compEnvC scope cl' C X.env) fp) elt (tM X.K cl W0 ce)) (hs : ∀ x, foldedSetIterable iter X.env x = pure x := by intro _; rfl) :
    PE X (.ListComp elt [⟨tg, iter, ifs, 0⟩] scope pos) (tM X.K cl W (cLcV fr (own.map (·.2)) c t ct ce)) := PE.imp (pe_lc hc hN (pi_vv hi) ok hg ht he hs) fun _ _ _ h => tLcV_ok hgo hto h
noncomputable def cListR (fr : Bool) (c : CE) : CE := fun ρ S => match c ρ S with
  | .ok (.val (.int n)) S1 => if decide (0 ≤ n) && decide (n ≤ 1000000) then mkL fr (rangeD 0 n.toNat) S1 else .bad
  | .exc e S1 => .exc e S1
  | _ => .bad
theorem rep_rg {N : Addr → Prop} {H : Hp} {n : Int} : RepL X.K cl N H (rgV 0 n) (rangeD 0 n.toNat) := by
  unfold rgV rangeD
  rw [Int.sub_zero]
  generalize List.range n.toNat = l
  induction l with
  | nil => exact .nil
  | cons x r ih => exact .cons (.int _) ih
theorem pm_listR (fr : Bool) {e : Expr} {c : CE} {p p2 pos pos2 : Pos} (hm : X.mg "list" = none) (hm2 : X.mg "range" = none) (he : PE X e (tM X.K cl W c)) (hc : X.calm = true) (hg : Gl X "list" := by rfl) (hg2 : Gl X "range" := by rfl)
    (na : starEach [e] X.env = (false, eval e X.env) :: starEach [] X.env := by rfl) (na2 : starEach [.Call (.Name "range" p2) [e] [] pos2] X.env = (false, eval (.Call (.Name "range" p2) [e] [] pos2) X.env) :: starEach [] X.env := by rfl) :
    PE X (.Call (.Name "list" p) [.Call (.Name "range" p2) [e] [] pos2] [] pos) (tM X.K cl W (cListR fr c)) :=
  PE.imp (pe_listRg hc hg hm (prg_1 hg2 hm2 he na) na2) fun σ H Q h => by
  obtain ⟨B, m, S, ρ, o, en, fin⟩ := h
  refine ⟨B, m, S, ρ, o, en, ?_⟩
  unfold cListR at fin
  cases hc : c ρ S with
  | bad => rw [hc] at fin; exact fin
  | exc e' S1 => rw [hc] at fin; exact fin
  | ok x S1 =>
    rw [hc] at fin
    intro v H1 m1 s1 o1 r1
    cases x with
    | ref i => exact fin.elim
    | val d =>
      cases d with
      | int n =>
        cases r1
        dsimp only at fin
        split at fin
        · rename_i hz
          simp only [Bool.and_eq_true, decide_eq_true_eq] at hz
          exact ⟨n, rfl, .of_le (by omega) (by omega) (by omega) (by omega), fun q hq => mkL_ok o1 rep_rg hq (Fin.step s1 fin)⟩
        · exact fin.elim
      | _ => exact fin.elim
end
end T3
namespace T3
open PySem PySem.Spec PyProof.Rows L2
section
variable {X : Cx} {cl : ClT} {W : WX}
noncomputable def tyT : A → Store → Bool
  | .val (.tup _), _ => true
  | _, _ => false
end
end T3
namespace T3
open PySem PySem.Spec PyProof.Rows L2
section
variable {ρ : Slots} {S : Store} {c : CE} {t : CT} {b : CS}
@[simp ↓] theorem ap_sForV : sForV c t b ρ S = (match c ρ S with | .ok (.ref j) S1 => forR (lb t b) j (lenAt S1 j + 1) 0 ρ S1 | .ok (.val (.lst ds)) S1 => forL (lb t b) ds ρ S1 | .ok (.val (.ro ds)) S1 => forL (lb t b) ds ρ S1 | .ok (.val (.tup ds)) S1 => forL (lb t b) ds ρ S1 | .ok (.val (.str s)) S1 => forL (lb t b) (signsD s) ρ S1 | .exc e S1 => .exc e ρ S1 | _ => .bad) := by
  unfold sForV sFor ciV
  cases h : c ρ S with
  | bad => rfl
  | exc e S1 => rfl
  | ok x S1 =>
    cases x with
    | ref j => rfl
    | val d => cases d <;> rfl
@[simp ↓] theorem ap_LcV {fr : Bool} {vs : List Nat} {ct ce : CE} : cLcV fr vs c t ct ce ρ S = (match (match c ρ S with | .ok (.ref j) S1 => (match lcR (elm t ct ce (wipeR ρ vs)) j (lenAt S1 j + 1) 0 S1 with | some r => IRes.ok r.1 r.2 | none => .bad) | .ok (.val (.lst ds)) S1 => (match lcGo (elm t ct ce (wipeR ρ vs)) ds S1 with | some r => IRes.ok r.1 r.2 | none => .bad) | .ok (.val (.ro ds)) S1 => (match lcGo (elm t ct ce (wipeR ρ vs)) ds S1 with | some r => IRes.ok r.1 r.2 | none => .bad) | .ok (.val (.tup ds)) S1 => (match lcGo (elm t ct ce (wipeR ρ vs)) ds S1 with | some r => IRes.ok r.1 r.2 | none => .bad) | .ok (.val (.str s)) S1 => (match lcGo (elm t ct ce (wipeR ρ vs)) (signsD s) S1 with | some r => IRes.ok r.1 r.2 | none => .bad) | .exc e S1 => .exc e S1 | _ => .bad) with | .ok ds S2 => (if szOk ds.length then mkL fr ds S2 else .bad) | .exc e S1 => .exc e S1 | .bad => .bad) := by
  have go : ∀ (ds : List D) (S1 : Store), (match lcGo (elm t ct ce (wipeR ρ vs)) ds S1 with
      | some (ds, S2) => if szOk ds.length then mkL fr ds S2 else .bad
      | none => .bad) = (match (match lcGo (elm t ct ce (wipeR ρ vs)) ds S1 with | some r => IRes.ok r.1 r.2 | none => .bad) with | .ok ds S2 => (if szOk ds.length then mkL fr ds S2 else .bad) | .exc e S1 => .exc e S1 | .bad => .bad) := fun ds S1 => by
    cases lcGo (elm t ct ce (wipeR ρ vs)) ds S1 <;> rfl
  unfold cLcV cLc ciV
  cases h : c ρ S with
  | bad => rfl
  | exc e S1 => rfl
  | ok x S1 =>
    cases x with
    | ref j =>
      show (match lcR (elm t ct ce (wipeR ρ vs)) j (lenAt S1 j + 1) 0 S1 with
        | some (ds, S2) => if szOk ds.length then mkL fr ds S2 else .bad
        | none => .bad) = _
      simp only
      cases lcR (elm t ct ce (wipeR ρ vs)) j (lenAt S1 j + 1) 0 S1 <;> rfl
    | val d => cases d <;> first | rfl | exact go _ S1
@[simp ↓] theorem ap_ListR {fr : Bool} : cListR fr c ρ S = (match c ρ S with | .ok (.val (.int n)) S1 => (if decide (0 ≤ n) && decide (n ≤ 1000000) then mkL fr (rangeD 0 n.toNat) S1 else .bad) | .exc e S1 => .exc e S1 | _ => .bad) := rfl
end
@[simp] theorem tyT_tup {ds : List D} {S : Store} : tyT (.val (.tup ds)) S = true := rfl
theorem lcR_eq {f : Elm} {j : Nat} {ds : List D} {S : Store} (hS : S[j]? = some (.lst ds)) (hf : ∀ d ∈ ds, ∃ r, f d S = some (r, S)) : lcR f j (lenAt S j + 1) 0 S = lcGo f ds S := by
  have hl : lenAt S j = ds.length := by
    unfold lenAt
    rw [hS]
  have go : ∀ (n i : Nat), n + i = ds.length + 1 → i ≤ ds.length → lcR f j n i S = lcGo f (ds.drop i) S := by
    intro n
    induction n with
    | zero =>
      intro i hn hi
      omega
    | succ n ih =>
      intro i hn hle
      unfold lcR
      rw [hS]
      simp only
      by_cases hi : i < ds.length
      · obtain ⟨r, e⟩ := hf ds[i] (List.getElem_mem _)
        rw [List.getElem?_eq_getElem hi, List.drop_eq_getElem_cons hi]
        simp only [lcGo, e]
        cases r with
        | none => exact ih (i + 1) (by omega) (by omega)
        | some y =>
          simp only [ih (i + 1) (by omega) (by omega)] <;> cases lcGo f (List.drop (i + 1) ds) S <;> rfl
      · have : i = ds.length := by omega
        subst this
        rw [List.getElem?_eq_none (Nat.le_refl _), List.drop_length]
        rfl
  rw [hl]
  exact go (ds.length + 1) 0 (by omega) (Nat.zero_le _)
section
variable {S : Store} {i : Nat}
@[simp] theorem len_ref : fLen [.ref i] S = (match S[i]? with | some (.lst ds) => .ok (.val (.int ds.length)) S | _ => .bad) := by
  show (match asL S (.ref i) with | some ds => Res.ok (.val (.int ds.length)) S | none => .bad) = _
  simp only [asL]
  cases S[i]? with
  | none => rfl
  | some o => cases o <;> rfl
@[simp] theorem tuple_ref : fTuple [.ref i] S = (match S[i]? with | some (.lst ds) => .ok (.val (.tup ds)) S | _ => .bad) := by
  show (match asL S (.ref i) with | some ds => Res.ok (.val (.tup ds)) S | none => .bad) = _
  simp only [asL]
  cases S[i]? with
  | none => rfl
  | some o => cases o <;> rfl
end
end T3
namespace T3
open PySem PySem.Spec PyProof.Rows L2
section
variable {X : Cx} {cl : ClT} {W : WX}
noncomputable def trC (kvs : List (Str × Int)) : List (TE × TE) := kvs.map fun kv => (tC (.str kv.1), tC (.int kv.2))
theorem tPairs_c {σ : L2.St} {Q : List (V × V) → Hp → Prop} : ∀ {kvs : List (Str × Int)} {H : Hp}, Q (kvs.map fun kv => (V.str kv.1, V.int kv.2)) H → tPairs (trC kvs) σ H Q
  | [], H, q => q
  | kv :: r, H, q => tPairs_c (kvs := r) (Q := fun ps H3 => Q ((V.str kv.1, V.int kv.2) :: ps) H3) q
theorem merge_new : ∀ (l acc : List (Key × V)), (l.map Prod.fst).Nodup → (∀ a ∈ acc.map Prod.fst, a ∉ l.map Prod.fst) → mergeK acc l = acc ++ l
  | [], acc, _, _ => by simp [mergeK]
  | (k, v) :: r, acc, h, hd => by
    have h1 := List.nodup_cons.mp h
    have hp : putK acc k v = acc ++ [(k, v)] := by
      unfold putK
      rw [if_neg]
      intro z
      rw [List.any_eq_true] at z
      obtain ⟨p, hp, e⟩ := z
      have e := of_decide_eq_true e
      exact hd p.1 (List.mem_map.mpr ⟨p, hp, rfl⟩) (by rw [e]; simp)
    show mergeK (putK acc k v) r = _
    rw [hp, merge_new r (acc ++ [(k, v)]) h1.2 (fun a ha hr => ?_)]
    · simp
    · rw [List.map_append, List.mem_append] at ha
      rcases ha with ha | ha
      · exact hd a ha (List.mem_cons_of_mem _ hr)
      · simp at ha
        rw [ha] at hr
        exact h1.1 hr
end
end T3
namespace T3
open PySem PySem.Spec PyProof.Rows L2
section
variable {X : Cx} {cl : ClT} {W : WX}
noncomputable def rListT : List V → Hp → VK → Prop := fun xs H Q => ∃ z : Str, xs = [.str z] ∧ z.cps.size ≤ sizeLine ∧ ∀ l, H l = none → Q (.ref l) (upd H l (.lst (z.cps.toList.map fun c => .str ⟨#[c]⟩)))
theorem call_list_txt (hc : X.calm = true) : CallR X (.type "list") rListT := by
  rintro pins s σ H xs us Q I r ⟨z, rfl, hz, q⟩
  match r with
  | .cons ru .nil =>
  obtain ⟨t, rfl⟩ := ru
  refine call_list_str (I.ok.hd hc) z t (fun h' tk acc' c' hk hS hacc => ?_) hz
  refine ⟨.ref s.heap.objs.size, _, I.laid hk (Nat.le_refl _) (show ObjOk X.prog X.w (upd H s.heap.objs.size (.lst (z.cps.toList.map fun c => .str ⟨#[c]⟩))) h' s.heap.objs.size (.lst (z.cps.toList.map fun c => .str ⟨#[c]⟩)) from ⟨?_, acc'.toList, c', ?_, ?_⟩), rfl, q _ (I.hok.fresh (Nat.le_refl _))⟩
  · simpa using hz
  · refine vals_of_at (by simp [hacc.1]) fun j x w h1 h2 => ?_
    obtain ⟨c, u, hcu, rfl⟩ := hacc.2 j w (by rw [← Array.getElem?_toList]; exact h2)
    rw [List.getElem?_map, Array.getElem?_toList, hcu] at h1
    cases h1
    exact ⟨u, rfl⟩
  · rw [Array.toArray_toList]; exact hS
theorem CallR.or {f : Value} {r r' : List V → Hp → VK → Prop} (h : CallR X f r) (h' : CallR X f r') : CallR X f (fun xs H Q => r xs H Q ∨ r' xs H Q) := fun pins s σ H xs us Q I q hr => hr.elim (h pins s σ H xs us Q I q) (h' pins s σ H xs us Q I q)
noncomputable def keyD : Key → D
  | .inl i => .int i
  | .inr x => .str x
/-- list(..) of a list, a tuple, a text, a dict -/
noncomputable def fList2 (fr : Bool) : List A → Store → Res
  | [.val (.str s)], S => if szOk s.length then mkL fr (signsD s) S else .bad
  | [.val (.dic ks ds)], S => mkL fr (ks.map keyD) S
  | [.ref i], S => (match S[i]? with
    | some (.dic ks ds) => mkL fr (ks.map keyD) S
    | some (.lst ds) => mkL fr ds S
    | _ => .bad)
  | xs, S => fList fr xs S
theorem rep_keys {K : PySem.W.Frag} {N : Addr → Prop} {H : Hp} : ∀ {ks : List Key} {xs : List V}, ks.length = xs.length → RepL K cl N H ((ks.zip xs).map fun kv => kV kv.1) (ks.map keyD)
  | [], [], _ => .nil
  | k :: ks, x :: xs, h => .cons (by cases k <;> first | exact .int _ | exact .str _) (rep_keys (by simpa using h))
theorem rep_signs {K : PySem.W.Frag} {N : Addr → Prop} {H : Hp} (s : Str) : RepL K cl N H (s.cps.toList.map fun c => V.str ⟨#[c]⟩) (signsD s) := by
  unfold signsD
  generalize s.cps.toList = l
  induction l with
  | nil => exact .nil
  | cons x r ih => exact .cons (.str _) ih
theorem ok_list2 (fr : Bool) : CaOk X.K cl (fun xs H Q => (∃ p ys, xs = [.ref p] ∧ (SqL X.K H p ys ∨ SqT X.K H p ys) ∧ ∀ l, H l = none → Q (.ref l) (upd H l (.lst ys))) ∨ rListT xs H Q ∨ rListD xs H Q) (fList2 fr) := by
  intro B H m S σ W vs xs Q o r h
  unfold fList2 at h
  split at h
  · rename_i s
    obtain ⟨v, rfl, r1⟩ := one_arg r
    cases r1
    split at h
    · rename_i hz
      exact .inr (.inl ⟨s, rfl, szOk_line hz, fun l hl => mkL_ok o (rep_signs s) hl h⟩)
    · exact h.elim
  · rename_i ks ds
    obtain ⟨v, rfl, r1⟩ := one_arg r
    cases r1 with
    | dic e n l rl => exact .inr (.inr ⟨_, _, rfl, e, fun q hq => mkL_ok o (rep_keys l) hq h⟩)
  · rename_i i
    obtain ⟨v, rfl, r1⟩ := one_arg r
    split at h
    · rename_i ks ds hi
      obtain ⟨a, ha, rfl⟩ := r1
      obtain ⟨xs, e, l, rl⟩ := o.obj i a _ ha hi
      exact .inr (.inr ⟨_, _, rfl, e, fun q hq => mkL_ok o (rep_keys l) hq h⟩)
    · rename_i ds hi
      refine .inl (ok_list (X := X) (cl := cl) (σ := σ) (W := W) fr o r ?_)
      unfold fList
      simp only [asL, hi]
      exact h
    · exact h.elim
  · exact .inl (ok_list (X := X) (cl := cl) (σ := σ) (W := W) fr o r h)
end
section
variable {S : Store} {fr : Bool} {i : Nat} {ds : List D} {ks : List Key} {s : Str}
@[simp] theorem list2_str : fList2 fr [.val (.str s)] S = if szOk s.length then mkL fr (signsD s) S else .bad := rfl
@[simp] theorem list2_dic : fList2 fr [.val (.dic ks ds)] S = mkL fr (ks.map keyD) S := rfl
@[simp] theorem list2_lst : fList2 fr [.val (.lst ds)] S = mkL fr ds S := rfl
@[simp] theorem list2_ro : fList2 fr [.val (.ro ds)] S = mkL fr ds S := rfl
@[simp] theorem list2_tup : fList2 fr [.val (.tup ds)] S = mkL fr ds S := rfl
@[simp] theorem list2_ref : fList2 fr [.ref i] S = (match S[i]? with | some (.dic ks ds) => mkL fr (ks.map keyD) S | some (.lst ds) => mkL fr ds S | _ => .bad) := rfl
end
end T3
namespace T3
open PySem PySem.Spec PyProof.Rows L2
section
variable {X : Cx}
/-- xs[::-1] of a list or a tuple -/
noncomputable def cRev2 (fr : Bool) (c : CE) : CE := fun ρ S => (c ρ S).bind fun x S1 => match x with
  | .val (.tup ds) => .ok (.val (.tup ds.reverse)) S1
  | x => match asL S1 x with
    | some ds => mkL fr ds.reverse S1
    | none => .bad
theorem PE.or {e : Expr} {t u : TE} (h : PE X e t) (k : PE X e u) : PE X e (fun σ H Q => t σ H Q ∨ u σ H Q) := ⟨fun pins s σ H Q I q => q.elim (h.run pins s σ H Q I) (k.run pins s σ H Q I)⟩
end
section
variable {ρ : Slots} {S : Store}
@[simp ↓] theorem ap_Rev2 {fr : Bool} {c : CE} : cRev2 fr c ρ S = (match c ρ S with | .ok x S1 => (match x with | .val (.tup ds) => .ok (.val (.tup ds.reverse)) S1 | x => (match asL S1 x with | some ds => mkL fr ds.reverse S1 | none => .bad)) | .exc e S9 => .exc e S9 | .bad => .bad) := rfl
end
noncomputable def dLe (x y : D) : Bool := !PySem.W.dataLt (toP y) (toP x)
theorem dLe_total : PySem.W.TotalLe dLe := PySem.W.sortLe_total (listOrd itemOrd) false fun d : D => PySem.W.keyToks (toP d)
noncomputable def insD (x : D) : List D → List D
  | [] => [x]
  | y :: r => if dLe x y then x :: y :: r else y :: insD x r
noncomputable def dSort : List D → List D
  | [] => []
  | x :: r => insD x (dSort r)
theorem insD_mem {x z : D} : ∀ {l : List D}, z ∈ insD x l → z = x ∨ z ∈ l
  | [], h => .inl (List.mem_singleton.mp h)
  | y :: r, h => by
    unfold insD at h
    split at h
    · rcases List.mem_cons.mp h with h | h
      · exact .inl h
      · exact .inr h
    · rcases List.mem_cons.mp h with h | h
      · exact .inr (h ▸ List.mem_cons_self)
      · rcases insD_mem h with h | h
        · exact .inl h
        · exact .inr (List.mem_cons_of_mem _ h)
theorem insD_pw (x : D) : ∀ {l : List D}, l.Pairwise (fun a b => dLe a b = true) → (insD x l).Pairwise (fun a b => dLe a b = true)
  | [], _ => List.pairwise_singleton _ _
  | y :: r, h => by
    unfold insD
    split
    · rename_i hxy
      refine List.pairwise_cons.mpr ⟨fun z hz => ?_, h⟩
      rcases List.mem_cons.mp hz with rfl | hz
      · exact hxy
      · exact dLe_total.trans _ _ _ hxy ((List.pairwise_cons.mp h).1 z hz)
    · rename_i hxy
      have hyx : dLe y x = true := (dLe_total.total x y).resolve_left hxy
      refine List.pairwise_cons.mpr ⟨fun z hz => ?_, insD_pw x (List.pairwise_cons.mp h).2⟩
      rcases insD_mem hz with rfl | hz
      · exact hyx
      · exact (List.pairwise_cons.mp h).1 z hz
theorem dSort_pw : ∀ l : List D, (dSort l).Pairwise (fun a b => dLe a b = true)
  | [] => .nil
  | x :: r => insD_pw x (dSort_pw r)
theorem insD_filter (x c : D) : ∀ l : List D, (insD x l).filter (PySem.W.sameRank dLe c) = (x :: l).filter (PySem.W.sameRank dLe c)
  | [] => rfl
  | y :: r => by
    unfold insD
    split
    · rfl
    · rename_i hxy
      rw [List.filter_cons, insD_filter x c r]
      by_cases hx : PySem.W.sameRank dLe c x = true
      · have hy : PySem.W.sameRank dLe c y = false := by
          refine Bool.eq_false_iff.mpr fun hy => hxy ?_
          unfold PySem.W.sameRank at hx hy
          rw [Bool.and_eq_true] at hx hy
          exact dLe_total.trans _ _ _ hx.2 hy.1
        simp [hx, hy]
      · have hx : PySem.W.sameRank dLe c x = false := by simpa using hx
        simp [List.filter_cons, hx]
theorem dSort_filter (c : D) : ∀ l : List D, (dSort l).filter (PySem.W.sameRank dLe c) = l.filter (PySem.W.sameRank dLe c)
  | [] => rfl
  | x :: r => by
    show (insD x (dSort r)).filter _ = _
    rw [insD_filter, List.filter_cons, List.filter_cons, dSort_filter c r]
theorem dSort_eq (l : List D) : dSort l = l.mergeSort dLe := PySem.W.sort_unique dLe_total (dSort_pw l) fun c => dSort_filter c l
/-- what is sorted: data of one shape; tuples with an item, or none of them a tuple or None -/
noncomputable def srtOk (ds : List D) : Bool := dOkL ds && decide (dDepL ds ≤ 50) && (ds.all fun d => ds.all fun e => PySem.W.alike (toP d) (toP e)) &&
  ((ds.all fun d => match d with | .tup (_ :: _) => true | _ => false) || ds.all fun d => match d with | .non => false | .tup _ => false | _ => true)
noncomputable def fSortD : List A → Store → Res
  | [x], S => (match asL S x with
    | some ds => if srtOk ds then .ok (.val (.lst (dSort ds))) S else .bad
    | none => .bad)
  | _, _ => .bad
section
variable {X : Cx}
noncomputable def rSortD (K : PySem.W.Frag) : List V → Hp → VK → Prop := fun xs H Q => ∃ (a : Addr) (bs : List (V × PyData)), xs = [.ref a] ∧ SqL K H a (bs.map Prod.fst) ∧ (∀ b ∈ bs, Dp K H b.1 b.2 ∧ b.2.depth ≤ 60) ∧ PySem.W.AllAlike (bs.map Prod.snd) ∧ PySem.W.Sortable (bs.map Prod.snd) ∧
  ∀ p, H p = none → Q (.ref p) (upd H p (.lst ((bs.mergeSort (PySem.W.dataLe false Prod.snd)).map Prod.fst)))
theorem each_vals : ∀ {bs : List (V × PyData)} {its : List Value}, Vals (bs.map Prod.fst) its → PySem.W.EachIs (fun u b => RelV b.1 u) its bs
  | [], _, h => by cases h; exact .nil
  | b :: bs, _, h => by
    cases h with
    | cons r t => exact .cons r (each_vals t)
theorem vals_each : ∀ {bs : List (V × PyData)} {its : List Value}, PySem.W.EachIs (fun u b => RelV b.1 u) its bs → Vals (bs.map Prod.fst) its
  | _, _, .nil => .nil
  | _, _, .cons r t => .cons r (vals_each t)
theorem each_reads {pins : List (Addr × Obj)} {σ : L2.St} {H : Hp} {s : Shared} (I : Inv X pins σ H s) : ∀ {bs : List (V × PyData)} {its : List Value}, (∀ b ∈ bs, Dp X.K H b.1 b.2) → PySem.W.EachIs (fun u b => RelV b.1 u) its bs → PySem.W.EachIs (fun u b => ∃ as, Reads s.heap u b.2 as) its bs
  | _, _, _, .nil => .nil
  | b :: bs, _, h, .cons r t => .cons (Dp.reads I b.2 b.1 _ (h b List.mem_cons_self) r) (each_reads I (fun c hc => h c (List.mem_cons_of_mem _ hc)) t)
theorem call_sortedX (hu : X.A.units + 70 < cLine) : CallR X (.builtin "sorted") (rSortD X.K) := by
  rintro pins s σ H xs us Q I r ⟨a, bs, rfl, hq, hb, hal, hk, q⟩
  match r with
  | .cons ru .nil =>
  cases ru
  obtain ⟨its, rv, pl, hz⟩ := I.list hq
  rw [List.length_map] at hz
  have e := each_vals rv
  refine PySem.W.sorted_data (enc := Prod.snd) (R := fun u b => RelV b.1 u) pl.isList e (each_reads I (fun b hb' => (hb b hb').1) e) hal hk hz (fun b hb' => by have := (hb b hb').2; omega) fun out ho eo => ?_
  obtain ⟨n, hn⟩ := sortedAll_at s.heap its out.toArray
  refine ⟨.ref (s.heap.objs.size + 1), _, I.laid (t' := s.toks) (o := .lst ((bs.mergeSort (PySem.W.dataLe false Prod.snd)).map Prod.fst)) (fun b u z => sortedAll_old z) (Nat.le_succ _) ?_, rfl, q _ (I.hok.fresh (Nat.le_succ _))⟩
  refine ⟨?_, out, n, vals_each eo, hn⟩
  rw [List.length_map, List.length_mergeSort]
  exact hz
theorem repL_zip {K : PySem.W.Frag} {cl : ClT} {N : Addr → Prop} {H : Hp} : ∀ {vs : List V} {ds : List D}, RepL K cl N H vs ds → ∃ zs : List (V × D), zs.map Prod.fst = vs ∧ zs.map Prod.snd = ds ∧ ∀ z ∈ zs, Rep K cl N H z.1 z.2
  | _, _, .nil => ⟨[], rfl, rfl, fun z h => by cases h⟩
  | _, _, .cons (v := v) (d := d) r t => by
    obtain ⟨zs, rfl, rfl, h⟩ := repL_zip t
    exact ⟨(v, d) :: zs, rfl, rfl, fun z hz => by
      rcases List.mem_cons.mp hz with rfl | hz
      · exact r
      · exact h z hz⟩
theorem repL_zs {K : PySem.W.Frag} {cl : ClT} {N : Addr → Prop} {H : Hp} : ∀ {zs : List (V × D)}, (∀ z ∈ zs, Rep K cl N H z.1 z.2) → RepL K cl N H (zs.map Prod.fst) (zs.map Prod.snd)
  | [], _ => .nil
  | z :: zs, h => .cons (h z List.mem_cons_self) (repL_zs fun y hy => h y (List.mem_cons_of_mem _ hy))
theorem dOkL_mem : ∀ {ds : List D} {d : D}, dOkL ds = true → d ∈ ds → dOk d = true
  | e :: r, d, h, hm => by
    simp only [dOkL, Bool.and_eq_true] at h
    rcases List.mem_cons.mp hm with rfl | hm
    · exact h.1
    · exact dOkL_mem h.2 hm
theorem dDepL_mem : ∀ {ds : List D} {d : D}, d ∈ ds → dDep d ≤ dDepL ds
  | e :: r, d, hm => by
    show _ ≤ max _ _
    rcases List.mem_cons.mp hm with rfl | hm
    · exact Nat.le_max_left _ _
    · exact Nat.le_trans (dDepL_mem hm) (Nat.le_max_right _ _)
theorem ok_sortD {cl : ClT} : CaOk X.K cl (rSortD X.K) fSortD := by
  intro B H m S σ W vs xs Q o r h
  unfold fSortD at h
  split at h
  · obtain ⟨v, rfl, r1⟩ := one_arg r
    split at h
    · rename_i ds hd
      split at h
      · rename_i hk
        obtain ⟨a, ys, rfl, q, rl⟩ := asL_ok o r1 hd
        obtain ⟨zs, rfl, rfl, hz⟩ := repL_zip rl
        unfold srtOk at hk
        simp only [Bool.and_eq_true, Bool.or_eq_true, decide_eq_true_eq] at hk
        obtain ⟨⟨⟨k1, k2⟩, k3⟩, k4⟩ := hk
        have memz : ∀ z ∈ zs, z.2 ∈ zs.map Prod.snd := fun z hz' => List.mem_map.mpr ⟨z, hz', rfl⟩
        have e0 : (zs.map fun z : V × D => (z.1, toP z.2)).map Prod.fst = zs.map Prod.fst := by rw [List.map_map]; rfl
        have e1 : (zs.map fun z : V × D => (z.1, toP z.2)).map Prod.snd = (zs.map Prod.snd).map toP := by rw [List.map_map, List.map_map]; rfl
        refine ⟨a, zs.map fun z => (z.1, toP z.2), rfl, by rw [e0]; exact q, fun b hb => ?_, ?_, ?_, fun p hp => ?_⟩
        · obtain ⟨z, hz', rfl⟩ := List.mem_map.mp hb
          have ok := dOkL_mem k1 (memz z hz')
          refine ⟨Dp.of (hz z hz') ok, ?_⟩
          rw [depth_toP ok]
          have := dDepL_mem (memz z hz')
          omega
        · rw [e1]
          intro d hd d' hd'
          obtain ⟨x, hx, rfl⟩ := List.mem_map.mp hd
          obtain ⟨y, hy, rfl⟩ := List.mem_map.mp hd'
          exact List.all_eq_true.mp (List.all_eq_true.mp k3 x hx) y hy
        · rw [e1]
          rcases k4 with k4 | k4
          · refine .inl fun d hd => ?_
            obtain ⟨x, hx, rfl⟩ := List.mem_map.mp hd
            have := List.all_eq_true.mp k4 x hx
            match x, this with
            | .tup (y :: r), _ => exact ⟨toP y, toPL r, rfl⟩
          · refine .inr fun d hd => ?_
            obtain ⟨x, hx, rfl⟩ := List.mem_map.mp hd
            have kx := List.all_eq_true.mp k4 x hx
            have ok := dOkL_mem k1 hx
            cases x with
            | non => cases kx
            | tup _ => cases kx
            | wt _ => cases ok
            | dic _ _ => cases ok
            | ins _ _ _ => cases ok
            | _ => exact ⟨fun z => (by cases z), fun xs z => (by cases z)⟩
        · have s1 : ((zs.mergeSort fun x y => dLe x.2 y.2).map fun z : V × D => (z.1, toP z.2)) = (zs.map fun z : V × D => (z.1, toP z.2)).mergeSort (PySem.W.dataLe false Prod.snd) := PySem.W.sort_maps _ fun x _ y _ => rfl
          have s2 : (zs.mergeSort fun x y => dLe x.2 y.2).map Prod.snd = (zs.map Prod.snd).mergeSort dLe := PySem.W.sort_maps _ fun x _ y _ => rfl
          rw [← s1, List.map_map]
          have e2 : (Prod.fst ∘ fun z : V × D => (z.1, toP z.2)) = Prod.fst := rfl
          rw [e2]
          refine mkL_ok (fr := true) (ds := dSort (zs.map Prod.snd)) o ?_ hp h
          rw [dSort_eq, ← s2]
          exact repL_zs fun z hz' => hz z (List.mem_mergeSort.mp hz')
      · exact h.elim
    · exact h.elim
  · exact h.elim
end
end T3
namespace T3
open PySem PySem.Spec PyProof.Rows L2 PySem.W
section
variable {prog : Program} {w : World} {A : Around} {E : Value → Shared → Prop} {s : Shared} {β : Type} {vs : List Value} {bs : List β} {enc : β → PyData} {R : Value → β → Prop}
/-- collect over a tuple: the new heap has grown -/
theorem collect_grown {Q : List Value → Shared → Prop} (it : Addr) {o : Obj} {items : Array Value} {n : Nat} (ho : s.heap.get? it = some o) (hc : o.cls = .type "tuple") (hd : o.data = .seq items n)
    (hQ : ∀ h', (∀ b o', s.heap.get? b = some o' → h'.get? b = some o') → s.heap.objs.size ≤ h'.objs.size → Q items.toList { s with heap := h' }) (hsz : items.size ≤ sizeLine) : wpAny (model prog w) A (collect (.ref it)) Q E s := by
  unfold collect
  refine wpAny_bind (wpAny_runValue (codeAny_builtin F.entry_proto_collect ?_))
  rw [Around.under_plainId F.plain_proto_collect _]
  show wpAny _ A.in1 (newList [] >>= fun l => again (.builtin "list.__iadd__" ⟨[l, .ref it], []⟩)) _ _ s
  refine wpAny_bind (wpAny_newObj_type (wpAny_pure ⟨plainId_quiet F.plain_list_iadd _, codeAny_builtin F.entry_list_iadd ?_⟩))
  rw [Around.under_plainId F.plain_list_iadd _]
  show wpAny _ A.in1 (Builtin.List.listExtendWith (.ref s.heap.objs.size) (.ref it) (.ref s.heap.objs.size)) _ _ _
  let h1 : Heap := (s.heap.push { cls := .type "list", data := .seq ([] : List Value).toArray }).update s.heap.objs.size (Obj.mapSeq (· ++ items))
  have at0 : (s.heap.push { cls := .type "list", data := .seq ([] : List Value).toArray }).get? s.heap.objs.size = some { cls := .type "list", data := .seq #[] 0 } := Heap.get?_push_size _ rfl
  have at1 := Heap.get?_update_self (Obj.mapSeq (· ++ items)) at0 rfl
  have last : wpAny (model prog w) A (match Value.ref s.heap.objs.size with
      | Value.ref a => do
        match (← load a).data with
          | Data.seq xs _ => pure xs.toList
          | _ => unsupported "internal:collect"
      | _ => unsupported "internal:collect") Q E { s with heap := h1 } := by
    show wpAny _ A (load s.heap.objs.size >>= _) _ _ _
    refine wpAny_bind (wpAny_load at1 (wpAny_pure ?_))
    show Q ((#[] : Array Value) ++ items).toList _
    rw [show ((#[] : Array Value) ++ items).toList = items.toList by simp]
    refine hQ _ (fun b o' hb => (Heap.get?_update_other _ _ (Nat.ne_of_gt (Heap.lt_size hb))).trans (Heap.get?_push_of_some _ hb)) ?_
    rw [Heap.size_update, Heap.size_push]
    exact Nat.le_succ _
  refine wpAny_mono (wpAny_extend_seq (hsz := hsz) (A := A) (R := fun r s' => r = .ok (.ret (.ref s.heap.objs.size)) ∧ s' = { s with heap := h1 }) (s := { s with heap := s.heap.push { cls := .type "list", data := .seq ([] : List Value).toArray } }) _ it _ 0 (.inr rfl) at0 (Heap.get?_push_of_some _ ho) hc hd ⟨rfl, rfl⟩) (fun fin s' h => ?_) fun e s' h => absurd h.1 (by simp)
  cases fin with
  | done f =>
    obtain ⟨e, rfl⟩ := h
    cases e
    exact last
  | again c' => exact ⟨h.1, codeAny_mono h.2 fun r s'' hr => by obtain ⟨rfl, rfl⟩ := hr; exact last⟩
theorem sorted_tup {it : Addr} {o : Obj} {items : Array Value} {n : Nat} {Q : Value → Shared → Prop} (ho : s.heap.get? it = some o) (hc : o.cls = .type "tuple") (hd : o.data = .seq items n) (e : EachIs R items.toList bs) (er : EachIs (fun v b => ∃ as, Reads s.heap v (enc b) as) items.toList bs)
    (hal : AllAlike (bs.map enc)) (hk : Sortable (bs.map enc)) (hL : bs.length ≤ sizeLine) (hu : ∀ b, b ∈ bs → A.units + 2 + (enc b).depth < cLine)
    (h : ∀ (out : List Value) (h' : Heap) (a : Addr) (c : Nat), (∀ b o, s.heap.get? b = some o → h'.get? b = some o) → s.heap.objs.size ≤ a → h'.get? a = some (seqObj "list" out.toArray c) → EachIs R out (bs.mergeSort (dataLe false enc)) → Q (.ref a) { s with heap := h' }) :
    wpAny (model prog w) A (call (.builtin "sorted") [.ref it]) Q E s := by
  have hz : items.toList.length ≤ sizeLine := by rw [e.length]; exact hL
  refine call_function_entry_kw kind_sorted plain_sorted entry_sorted (args_sorted1 _) ?_
  unfold Builtin.«sorted»
  refine wpAny_bind (m := checkCount "sorted" 1 1 _) (wpAny_pure ?_)
  refine wpAny_bind (collect_grown it ho hc hd (fun h1 kp gr => ?_) (by simpa using hz))
  refine wpAny_bind (wpAny_newList ?_ hz)
  have hat : (h1.push (seqObj "list" items.toList.toArray 0)).get? h1.objs.size = some (seqObj "list" items.toList.toArray 0) := Heap.get?_push_size _ rfl
  have kp2 : ∀ b o, s.heap.get? b = some o → (h1.push (seqObj "list" items.toList.toArray 0)).get? b = some o := fun b o q => Heap.get?_push_of_some _ (kp b o q)
  have ne : ∀ b o, s.heap.get? b = some o → b ≠ h1.objs.size := fun b o q => Nat.ne_of_lt (Heap.lt_size (kp b o q))
  have er' : EachIs (fun v b => ∃ as, Reads (sortingHeap (h1.push (seqObj "list" items.toList.toArray 0)) h1.objs.size items.toList) v (enc b) as) items.toList bs :=
    er.mono fun _ _ ⟨as, r⟩ => ⟨as, PyProof.Rows.Reads.keeps (fun b o q => sortingHeap_old (ne b o q) (kp2 b o q)) r⟩
  refine wpAny_bind (wpAny_holding (wpAny_call_entry_kw slot_list_sort ⟨_, hat, rfl⟩ entry_list_sort ?body (args_list_sort _)))
  case body =>
    show wpAny (model prog w) A.in1.in1 (Builtin.«list.sort» ⟨[.ref h1.objs.size], []⟩) _ _ _
    refine list_sort_vals (s := { s with heap := h1.push (seqObj "list" items.toList.toArray 0) }) hat (SortsAt.data (s := { s with heap := sortingHeap (h1.push (seqObj "list" items.toList.toArray 0)) h1.objs.size items.toList }) (each_map (R := fun v d => ∃ as, Reads (sortingHeap (h1.push (seqObj "list" items.toList.toArray 0)) h1.objs.size items.toList) v d as) enc er') hal hk (bound_map hu)) hz ?_
    refine ⟨_, rfl, wpAny_pure ⟨_, rfl, ?_⟩⟩
    obtain ⟨c, hcc⟩ := sortedHeap_at (out := (sortVals (dataKind (sortingHeap (h1.push (seqObj "list" items.toList.toArray 0)) h1.objs.size items.toList) (bs.map enc)) false items.toList items.toList).toArray) hat
    refine h _ _ _ c (fun b o q => ?_) gr hcc (sortVals_data false e er' hal)
    · rw [sortedHeap_old (ne b o q) (Heap.lt_size (kp2 b o q))]
      exact kp2 b o q
end
section
variable {X : Cx}
noncomputable def rSortT (K : PySem.W.Frag) : List V → Hp → VK → Prop := fun xs H Q => ∃ (a : Addr) (bs : List (V × PyData)), xs = [.ref a] ∧ SqT K H a (bs.map Prod.fst) ∧ (∀ b ∈ bs, Dp K H b.1 b.2 ∧ b.2.depth ≤ 60) ∧ PySem.W.AllAlike (bs.map Prod.snd) ∧ PySem.W.Sortable (bs.map Prod.snd) ∧
  ∀ p, H p = none → Q (.ref p) (upd H p (.lst ((bs.mergeSort (PySem.W.dataLe false Prod.snd)).map Prod.fst)))
theorem call_sortedT (hu : X.A.units + 70 < cLine) : CallR X (.builtin "sorted") (rSortT X.K) := by
  rintro pins s σ H xs us Q I r ⟨a, bs, rfl, hq, hb, hal, hk, q⟩
  match r with
  | .cons ru .nil =>
  cases ru
  obtain ⟨its, rv, ⟨o, ho, hc, n, hd⟩, hz⟩ := I.tuple hq
  rw [List.length_map] at hz
  have e := each_vals rv
  refine sorted_tup (enc := Prod.snd) (R := fun u b => RelV b.1 u) ho hc hd (by simpa using e) (by simpa using each_reads I (fun b hb' => (hb b hb').1) e) hal hk hz (fun b hb' => by have := (hb b hb').2; omega) fun out h' p c kp hp hat eo => ?_
  refine ⟨.ref p, _, I.laid (t' := s.toks) (o := .lst ((bs.mergeSort (PySem.W.dataLe false Prod.snd)).map Prod.fst)) kp hp ?_, rfl, q _ (I.hok.fresh hp)⟩
  refine ⟨?_, out, c, vals_each eo, hat⟩
  rw [List.length_map, List.length_mergeSort]
  exact hz
theorem asT_tup {B : Addr → Prop} {H : Hp} {m : List Addr} {v : V} {ds : List D} {K : PySem.W.Frag} {cl : ClT} (r : RepA K cl (NN B m) H m v (.val (.tup ds))) : ∃ a xs, v = .ref a ∧ SqT K H a xs ∧ RepL K cl (NN B m) H xs ds := by
  cases r with
  | tup t q => exact ⟨_, _, rfl, t.seq, q⟩
/-- sorted of a list or a tuple -/
noncomputable def fSortD2 : List A → Store → Res
  | [.val (.tup ds)], S => if srtOk ds then .ok (.val (.lst (dSort ds))) S else .bad
  | xs, S => fSortD xs S
theorem call_sorted2 (hu : X.A.units + 70 < cLine) : CallR X (.builtin "sorted") (fun xs H Q => rSortD X.K xs H Q ∨ rSortT X.K xs H Q) := CallR.or (call_sortedX hu) (call_sortedT hu)
theorem ok_sortD2 {cl : ClT} : CaOk X.K cl (fun xs H Q => rSortD X.K xs H Q ∨ rSortT X.K xs H Q) fSortD2 := by
  intro B H m S σ W vs xs Q o r h
  unfold fSortD2 at h
  split at h
  · rename_i ds S
    obtain ⟨v, rfl, r1⟩ := one_arg r
    split at h
    · rename_i hk
      obtain ⟨a, ys, rfl, q, rl⟩ := asT_tup r1
      obtain ⟨zs, rfl, rfl, hz⟩ := repL_zip rl
      have hk0 := hk
      unfold srtOk at hk
      simp only [Bool.and_eq_true, Bool.or_eq_true, decide_eq_true_eq] at hk
      obtain ⟨⟨⟨k1, k2⟩, k3⟩, k4⟩ := hk
      have memz : ∀ z ∈ zs, z.2 ∈ zs.map Prod.snd := fun z hz' => List.mem_map.mpr ⟨z, hz', rfl⟩
      have e0 : (zs.map fun z : V × D => (z.1, toP z.2)).map Prod.fst = zs.map Prod.fst := by rw [List.map_map]; rfl
      have e1 : (zs.map fun z : V × D => (z.1, toP z.2)).map Prod.snd = (zs.map Prod.snd).map toP := by rw [List.map_map, List.map_map]; rfl
      refine .inr ⟨a, zs.map fun z => (z.1, toP z.2), rfl, by rw [e0]; exact q, fun b hb => ?_, ?_, ?_, fun p hp => ?_⟩
      · obtain ⟨z, hz', rfl⟩ := List.mem_map.mp hb
        have ok := dOkL_mem k1 (memz z hz')
        refine ⟨Dp.of (hz z hz') ok, ?_⟩
        rw [depth_toP ok]
        have := dDepL_mem (memz z hz')
        omega
      · rw [e1]
        intro d hd d' hd'
        obtain ⟨x, hx, rfl⟩ := List.mem_map.mp hd
        obtain ⟨y, hy, rfl⟩ := List.mem_map.mp hd'
        exact List.all_eq_true.mp (List.all_eq_true.mp k3 x hx) y hy
      · rw [e1]
        rcases k4 with k4 | k4
        · refine .inl fun d hd => ?_
          obtain ⟨x, hx, rfl⟩ := List.mem_map.mp hd
          have := List.all_eq_true.mp k4 x hx
          match x, this with
          | .tup (y :: r), _ => exact ⟨toP y, toPL r, rfl⟩
        · refine .inr fun d hd => ?_
          obtain ⟨x, hx, rfl⟩ := List.mem_map.mp hd
          have kx := List.all_eq_true.mp k4 x hx
          have ok := dOkL_mem k1 hx
          cases x with
          | non => cases kx
          | tup _ => cases kx
          | wt _ => cases ok
          | dic _ _ => cases ok
          | ins _ _ _ => cases ok
          | _ => exact ⟨fun z => (by cases z), fun xs z => (by cases z)⟩
      · have s1 : ((zs.mergeSort fun x y => dLe x.2 y.2).map fun z : V × D => (z.1, toP z.2)) = (zs.map fun z : V × D => (z.1, toP z.2)).mergeSort (PySem.W.dataLe false Prod.snd) := PySem.W.sort_maps _ fun x _ y _ => rfl
        have s2 : (zs.mergeSort fun x y => dLe x.2 y.2).map Prod.snd = (zs.map Prod.snd).mergeSort dLe := PySem.W.sort_maps _ fun x _ y _ => rfl
        rw [← s1, List.map_map]
        have e2 : (Prod.fst ∘ fun z : V × D => (z.1, toP z.2)) = Prod.fst := rfl
        rw [e2]
        refine mkL_ok (fr := true) (ds := dSort (zs.map Prod.snd)) o ?_ hp h
        rw [dSort_eq, ← s2]
        exact repL_zs fun z hz' => hz z (List.mem_mergeSort.mp hz')
    · exact h.elim
  · exact .inl (ok_sortD o r h)
end
end T3
namespace T3.XI
open PySem PySem.W PySem.Calls PyProof.Rows
noncomputable def ag (f : Str) (p1 p2 : Pos) : Arguments := { posonlyargs := [], args := [{ arg := "self", annotation := none, pos := p1 }, { arg := f, annotation := none, pos := p2 }], vararg := none, kwonlyargs := [], kw_defaults := [], kwarg := none, defaults := [] }
noncomputable def bd (f : Str) (p0 p1 p2 p3 p4 q1 q2 q3 q4 : Pos) : List Stmt := [.Expr (.Call (.Attribute (.Call (.Name "super" p0) [] [] p1) "__init__" p2) [] [] p3) p4, .Assign [.Attribute (.Name "self" q1) f q2] (.Name f q3) q4]
noncomputable def sc (f : Str) : Scope := { kind := .function, names := [(PySem.Str.ofString "self", .local), (f, .local), (PySem.Str.ofString "__class__", .free), (PySem.Str.ofString "super", .globalImplicit)], isGenerator := false, isCoroutine := false, more := [] }
/-- the built-in base -/
structure BaseX (B newId initId : String) (bmB : List Value) : Prop where
  fb : ExcBaseFacts B newId initId bmB
  kf : KxsFacts B initId
  sf : StoreFacts B bmB "object.__setattr__" "object"
/-- what the written part says of the class at C and of its __init__ at fI -/
structure XTxt (prog : Program) (K : Frag) (mg : Str → Option Value) (nm f : Str) (C fI : Addr) (B newId initId : String) (bmB : List Value) : Prop where
  gC : mg nm = some (.ref C)
  base : BaseX B newId initId bmB
  q : excInitIn K C bmB newId = true
  ov : excOver K C bmB = true
  sa : findIn K (.ref C) "__setattr__" = some (some (.builtin "object.__setattr__"))
  noF : findIn K (.ref C) f = some none
  hd : hasDictIn K C = true
  iC : findIn K (.ref C) "__init__" = some (some (.ref fI))
  tI : isFn K (.ref fI) = true
  kC : keepIn K (.ref C) = true
  exC : subIn K (.ref C) (.type "BaseException") = some true
  tyC : typeIn K (.ref C) = some (.type "type")
  sB : subIn K (.ref C) (.type B) = some true
  mC : mroIn K C (.ref C) = some true
  sup : ks_superIn K C C "__init__" = some (some (.builtin initId))
  noS : nsIn K mainGlobals "super" = some none
  any : nsIn K cStatics "thirdparty.any" = some none
  top : (prog.main.scope.names.lookup ("super" : Str)).isSome = false
  fn : ∃ (oc : Value) (od : Option Addr) (dV kV doc pm : Value) (an : Option Addr) (cda : Addr) (ct : Value) (cc : Addr) (osl : Array (Option Value)) (qual : Str) (p1 p2 p0 a1 a2 a3 a4 q1 q2 q3 q4 : Pos),
    K.lookup fI = some ⟨oc, od, .func (ksFn "__init__" qual (ag f p1 p2) (bd f p0 a1 a2 a3 a4 q1 q2 q3 q4) (sc f) dV kV doc pm an (.ref cda) ct cc), osl⟩ ∧ dV = .none ∧ (a2.endLine == a3.line) = true ∧ codeIn K (.ref cda) qual = true ∧
    (∃ ccl cdd vs ccs file tf, K.lookup cda = some ⟨ccl, cdd, .fields vs, ccs⟩ ∧ vs[2]? = some (.str file tf) ∧ ((prog.main.file : Str) == file) = true) ∧
    ∃ cl cld csl, K.lookup cc = some ⟨cl, cld, .cell (some (.ref C)), csl⟩
section
variable {prog : Program} {w : World} {A : Around} {E : Value → Shared → Prop} {R : Result → Shared → Prop} {s : Shared} {K : Frag} {mg : Str → Option Value} {nm f : Str} {C fI : Addr} {B newId initId : String} {bmB : List Value}
/-- what __init__ leaves of a fresh exception at x -/
structure End (h h' : Heap) (x C dx t1 : Addr) (f : Str) (v : Value) : Prop where
  keep : ∀ b o, b ≠ x → h.get? b = some o → h'.get? b = some o
  obj : h'.get? x = some (excObj C t1 (some dx) .none)
  dbig : h.objs.size ≤ dx
  dne : dx ≠ x
  ns : h'.Ns1 dx (fun y => if y = f then some v else none)
theorem cls_isSome {C : Addr} (q : excOver K C bmB = true) : ∃ cd, clsIn K C = some cd := by
  unfold excOver at q
  cases h : clsIn K C with
  | none => rw [h] at q; cases q
  | some cd => exact ⟨cd, rfl⟩
theorem sup_node {g : Heap} {L x cc cda so : Addr} {m : Str → Option Value} {news : List (Addr × Obj)} {ox : Obj} {fd : FuncData} {oc ccl cl : Value} {od cdd cld : Option Addr} {osl ccs csl : Array (Option Value)} {vs : Array Value} {file : Str} {tf : Tok} {body : List Stmt} {qual : Str} {p0 p1 : Pos} {cd : ClassData} {whole : Sem Value} {Q : Value → Shared → Prop}
    (Fg : Fr g L s.heap m) (Kg : K.In g) (Ng : News g L s.heap news) (G : s.heap.Ns mainGlobals mg) (Bl : ∃ mb, s.heap.Ns builtinsNs mb ∧ ∀ x : Str, x ≠ "__name__" → mb x = bootBuiltins x) (noS : mg "super" = none)
    (hf : K.lookup fI = some ⟨oc, od, .func fd, osl⟩) (hp : ∃ p1, (fd.params.posonlyargs ++ fd.params.args).head? = some { arg := "self", annotation := none, pos := p1 }) (hv : m "self" = some (.ref x)) (I : InstAt s.heap x ox C none)
    (hcode : K.lookup cda = some ⟨ccl, cdd, .fields vs, ccs⟩) (hvs : vs[2]? = some (.str file tf)) (hfile : ((prog.main.file : Str) == file) = true) (hcell : K.lookup cc = some ⟨cl, cld, .cell (some (.ref C)), csl⟩)
    (hcd : clsIn K C = some cd) (hm : mroIn K C (.ref C) = some true) (htop : (prog.main.scope.names.lookup ("super" : Str)).isSome = false)
    (hks : (sc f).names.lookup ("super" : Str) = some .globalImplicit) (hkc : (sc f).names.lookup ("__class__" : Str) = some .free)
    (h : ∀ so h', Fr g L h' m → News g L h' ((so, ks_superObj C x C) :: news) → (∀ p ∈ news, p.1 < so) → Q (.ref so) { s with heap := h' }) :
    _root_.PySem.wpAt (model prog w) A (.func body (ksEnv qual (sc f) L fI (.ref cda) cc)) (attributeBase (.Call (.Name "super" p0) [] [] p1) "__init__" (ksEnv qual (sc f) L fI (.ref cda) cc) whole) Q E s := by
  have X : K.In s.heap := Kg.keeps Fg.keep
  obtain ⟨mb, b1, b2⟩ := Bl
  obtain ⟨p1', hp⟩ := hp
  obtain ⟨hh, gg, d, t, os⟩ := s
  have hD : ∃ oD, hh.get? C = some oD ∧ oD.data = .cls cd := by
    have e := hcd
    unfold clsIn at e
    split at e
    · rename_i c d cd' sl ho
      injection e with e
      exact ⟨_, X _ _ ho, by rw [e]⟩
    · cases e
  obtain ⟨oD, d1, d2⟩ := hD
  refine ks_wpAt_super_base (env := ksEnv qual (sc f) L fI (.ref cda) cc) hks hkc (by decide) rfl (X _ _ hf) rfl hp rfl (X _ _ hcode) rfl hvs hfile htop (ks_loadName_global rfl hks (loadGlobal_builtin (env := ksEnv qual (sc f) L fI (.ref cda) cc) G noS b1 ((b2 _ (by decide +kernel)).trans (by first | rfl | kernel_rfl)) ⟨rfl, ?_⟩))
  refine wpAny_loadName_free rfl hkc rfl ⟨_, X _ _ hcell, rfl⟩ (wpAny_loadName_local rfl rfl Fg.ns hv (ks_wpAny_isType_cls d1 d2 ⟨rfl, ks_wpAny_call_super d1 d2 I.at_ I.cls (fun c e => ?_) (looks_mroIn X hm) fun h' e k => ?_⟩))
  · have n := I.no
    rw [show notCls ox = false from by unfold notCls; rw [e]] at n
    cases n
  · obtain ⟨F', N', l'⟩ := ks_newsPush (s := ⟨hh, gg, d, t, os⟩) Fg Ng rfl e k
    exact h _ _ F' N' l'
end
end T3.XI
namespace T3.XI
open PySem PySem.W PySem.Calls PyProof.Rows
section
variable {prog : Program} {w : World} {A : Around} {E : Value → Shared → Prop} {R : Result → Shared → Prop} {s : Shared} {K : Frag} {mg : Str → Option Value} {nm f : Str} {C fI : Addr} {B newId initId : String} {bmB : List Value}
theorem ev_sup {env : Env} {a0 a1 a2 a3 : Pos} (hl : (a2.endLine == a3.line) = true) : eval (.Call (.Attribute (.Call (.Name "super" a0) [] [] a1) "__init__" a2) [] [] a3) env = (do
      let ov ← attributeBase (.Call (.Name "super" a0) [] [] a1) "__init__" env (eval (.Call (.Name "super" a0) [] [] a1) env)
      standAt a2.atName
      let (f, first) ← holding [ov] (getMethod ov "__init__" (L2.plainOf (.Call (.Name "super" a0) [] [] a1) env))
      callWith a3 f first (backTo a3 (starEach [] env)) []) := by
  have e : ∀ ov, methodCall (.Call (.Name "super" a0) [] [] a1) "__init__" a2 a3 env ov 0 (backTo a3 (starEach [] env)) [] = _ := fun ov => L2.mcall_line (m := "__init__") (n := 0) (args := backTo a3 (starEach [] env)) (kws := []) rfl hl
  show (attributeBase (.Call (.Name "super" a0) [] [] a1) "__init__" env (eval (.Call (.Name "super" a0) [] [] a1) env) >>= fun ov => standAt a2.atName >>= fun _ => methodCall (.Call (.Name "super" a0) [] [] a1) "__init__" a2 a3 env ov 0 (backTo a3 (starEach [] env)) []) = _
  simp only [e]
theorem x_init (hf : f = "given" ∨ f = "index") (T : XTxt prog K mg nm f C fI B newId initId bmB) {x t0 : Addr} {v : Value} (X : K.In s.heap) (hlim : s.heap.NoLimit) (G : s.heap.Ns mainGlobals mg) (Bl : ∃ mb, s.heap.Ns builtinsNs mb ∧ ∀ x : Str, x ≠ "__name__" → mb x = bootBuiltins x)
    (noS : mg "super" = none) (hx : s.heap.get? x = some (excObj C t0 none .none)) (hnx : K.lookup x = none) (hroom : A.depth < recursionLimit)
    (hq : ∀ h' tk dx t1, End s.heap h' x C dx t1 f v → R (.ok (.ret .none)) { s with heap := h', toks := tk }) :
    codeAny (model prog w) A (.call (.ref fI) ⟨[.ref x, v], []⟩) R s := by
  obtain ⟨oc, od, dV, kV, doc, pm, an, cda, ct, cc, osl, qual, p1, p2, p0, a1, a2, a3, a4, q1, q2, q3, q4, ho, hdv, hln, hcd, ⟨ccl, cdd, vs, ccs, file, tf, k1, k2, k3⟩, cl, cld, csl, k4⟩ := T.fn
  subst hdv
  obtain ⟨cd, hcls⟩ := cls_isSome T.ov
  have hxne : ∀ o, K.lookup x = some o → False := fun o e => by rw [hnx] at e; cases e
  refine ks_codeAny_call_defAt (fd := ksFn "__init__" qual (ag f p1 p2) (bd f p0 a1 a2 a3 a4 q1 q2 q3 q4) (sc f) .none kV doc pm an (.ref cda) ct cc) (body := bd f p0 a1 a2 a3 a4 q1 q2 q3 q4) (binds := [("self", .ref x), (f, v)]) hroom (X _ _ ho) rfl hlim (codeRec_of X hcd) rfl ?_ ?_ ?_ (fun h₁ hns k => ?_) rfl rfl rfl
  · rcases hf with rfl | rfl <;> exact BindsTo.of_eq (by first | rfl | with_unfolding_all rfl)
  · show ∀ x ∈ (sc f).names, x.2 ≠ .cell
    rcases hf with rfl | rfl <;> decide
  · intro y hy
    show (sc f).names.lookup y.1 = some .local
    rcases List.mem_cons.mp hy with rfl | hy
    · rfl
    · rw [List.mem_singleton.mp hy]
      rcases hf with rfl | rfl <;> rfl
  have X1 : K.In h₁ := X.keeps k
  have Fg : Fr (hideAll s.heap [x]) s.heap.objs.size h₁ _ := ⟨hns, fun b o e => k b o (of_hideAll _ e), Nat.le_of_eq (hideAll_size _ _)⟩
  have Kg : K.In (hideAll s.heap [x]) := fun a o e => hideAll_get _ (X a o e) (fun z => hxne o (by rw [← List.mem_singleton.mp z]; exact e))
  have hxL : x ≠ s.heap.objs.size := Nat.ne_of_lt (Heap.lt_size hx)
  have Ng : News (hideAll s.heap [x]) s.heap.objs.size h₁ [(x, excObj C t0 none .none)] := fun p hp => by
    rw [List.mem_singleton.mp hp]
    exact ⟨k _ _ hx, hxL, hideAll_none _ List.mem_cons_self⟩
  have mS : List.lookup ("self" : Str) ([("self", Value.ref x), (f, v)] : List (Str × Value)).reverse = some (Value.ref x) := by rcases hf with rfl | rfl <;> rfl
  have mF : List.lookup f ([("self", Value.ref x), (f, v)] : List (Str × Value)).reverse = some v := by rcases hf with rfl | rfl <;> rfl
  have s1 : (sc f).names.lookup ("super" : Str) = some .globalImplicit := by rcases hf with rfl | rfl <;> rfl
  have s2 : (sc f).names.lookup ("__class__" : Str) = some .free := by rcases hf with rfl | rfl <;> rfl
  have s3 : (sc f).names.lookup f = some .local := by rcases hf with rfl | rfl <;> rfl
  have dbg : (f == ("__debug__" : Str)) = false := by rcases hf with rfl | rfl <;> decide
  show _root_.PySem.wpAt _ _ _ (execs (bd f p0 a1 a2 a3 a4 q1 q2 q3 q4) (ksEnv qual (sc f) s.heap.objs.size fI (.ref cda) cc)) _ _ _
  refine ks_wpAt_execs_cons (ks_wpAt_Expr_any (ks_wpAt_MethodCall ?_ (ev_sup hln)))
  refine sup_node (so := 0) (C := C) (fI := fI) (f := f) (s := { s with heap := h₁, toks := _ }) Fg Kg Ng (G.keeps k) (let ⟨mb, b1, b2⟩ := Bl; ⟨mb, b1.keeps k, b2⟩) noS ho ⟨p1, rfl⟩ mS ⟨k _ _ hx, rfl, rfl, trivial⟩ k1 k2 k3 k4 hcls T.mC T.top s1 s2 (fun so h2 F2 N2 l2 => ?_)
  have I2 : InstAt h2 x (excObj C t0 none .none) C none := ⟨(N2 (x, excObj C t0 none .none) (by simp)).1, rfl, rfl, trivial⟩
  have soX : so ≠ x := fun z => Nat.lt_irrefl _ (z ▸ l2 _ (List.mem_singleton.mpr rfl))
  refine kxs_method (s := { s with heap := h2, toks := _ }) T.base.kf F2 Kg N2 List.mem_cons_self I2 T.any T.sup T.sB (by decide) (fun u h3 F3 N3 l3 => ?_)
  have uX : u ≠ x := fun z => by
    have := l3 (x, excObj C t0 none .none) (by simp)
    rw [z] at this
    exact Nat.lt_irrefl _ this
  refine kxs_callWith0 (s := { s with heap := h3, toks := _ }) N3 List.mem_cons_self ?_
  refine kxs_call (s := { s with heap := h3, toks := _ }) (rest := []) F3 Kg N3 T.base.fb T.q List.mem_cons_self (.tail uX (.tail soX (.head (fun p hp => by cases hp)))) (Nat.zero_le _) (fun t' h4 F4 N4 l4 => ?_)
  have X4 : K.In h4 := Kg.keeps F4.keep
  have hx4 := (N4 (x, excObj C t' none .none) (by simp)).1
  have I4 : InstAt h4 x (excObj C t' none .none) C none := ⟨hx4, rfl, rfl, trivial⟩
  have ht : takerIn K C f = some none := by
    unfold takerIn
    rw [T.noF]
    rfl
  have hdc : cd.hasDict = true := by
    have e := T.hd
    unfold hasDictIn at e
    rw [hcls] at e
    exact e
  show _root_.PySem.wpAt _ _ _ (execs [.Assign [.Attribute (.Name "self" q1) f q2] (.Name f q3) q4] (ksEnv qual (sc f) s.heap.objs.size fI (.ref cda) cc)) _ _ _
  refine ks_wpAt_execs_cons (ks_wpAt_Assign_Attr (wpAt_of_wpAny (wpAny_Name (wpAny_loadName_local rfl s3 F4.ns mF ?_) dbg)))
  refine wpAny_Name (wpAny_loadName_local rfl rfl F4.ns mS ?_) (by decide)
  refine set_plain (od := none) X4 ⟨hx4, rfl, rfl, trivial⟩ T.sa (osa_openX T.base.sf X4 I4 T.ov ht fun b => ?_)
  have hcd4 : Looks (model prog w) h4 (classData C) cd := looks_clsIn X4 hcls
  have hxs : x ≠ h4.objs.size := Nat.ne_of_lt (Heap.lt_size hx4)
  obtain ⟨c1, c2, c3, c4, c5, c6, c7, c8, c9, c10, c11⟩ := cd
  dsimp only at hdc
  subst hdc
  unfold Builtin.ObjectAttr.storeInOwnDict Builtin.ObjectAttr.ownDictForStores
  repeat first
    | (with_reducible refine HandSPX.store_in_new ?_ ?_)
    | (with_reducible refine wpAny_loadPart_at hx4 ?_)
    | (with_reducible refine hcd4.at ?_)
    | wp_step
  · exact ⟨_, #[], _, (Heap.get?_update_ne _ _ _ _ hxs.symm).trans (Heap.get?_push_at rfl rfl), rfl, fun e he => absurd he (by simp), fun _ => rfl⟩
  · intro h5 tk5 hn5 hs5
    refine wpAt_of_wpAny (wpAny_execs_nil ?_)
    have step : ∀ b o, b ≠ x → h4.get? b = some o → h5.get? b = some o := fun b o hb e =>
      (hs5.2 b (Nat.ne_of_lt (Heap.lt_size e))).trans ((Heap.get?_update_ne _ _ _ _ (Ne.symm hb.symm)).trans (Heap.get?_push_of_some _ e))
    refine hq h5 tk5 h4.objs.size t' ⟨fun b o hb e => step b o hb (F4.keep b o (hideAll_get _ e fun z => hb (List.mem_singleton.mp z))), ?_, Nat.le_of_lt F4.ns.lt, hxs.symm, hn5⟩
    exact (hs5.2 x hxs).trans (Heap.get?_update_self _ (Heap.get?_push_of_some _ hx4) rfl)
end
end T3.XI
namespace T3.XI
open PySem PySem.W PySem.Calls PyProof.Rows
section
variable {prog : Program} {w : World} {A : Around} {E : Value → Shared → Prop} {R : Result → Shared → Prop} {s : Shared} {K : Frag} {mg : Str → Option Value} {nm f : Str} {C fI : Addr} {B newId initId : String} {bmB : List Value}
/-- a made error -/
structure Made (h h' : Heap) (e C d : Addr) (f : Str) (v : Value) : Prop where
  keep : ∀ b o, h.get? b = some o → h'.get? b = some o
  new : h.objs.size ≤ e
  obj : ∃ oe vs, h'.get? e = some oe ∧ oe.cls = .ref C ∧ oe.dict = some d ∧ oe.data = .fields vs ∧ vs[1]? = some .none
  dbig : h.objs.size ≤ d
  dne : d ≠ e
  ns : h'.Ns1 d (fun y => if y = f then some v else none)
theorem size1 (v : Value) : [v].length ≤ sizeLine := by
  rw [sizeLine_eq]
  exact (by decide : 1 ≤ 16777216)
theorem x_made (hf : f = "given" ∨ f = "index") (T : XTxt prog K mg nm f C fI B newId initId bmB) {v : Value} (X : K.In s.heap) (hlim : s.heap.NoLimit) (G : s.heap.Ns mainGlobals mg) (Bl : ∃ mb, s.heap.Ns builtinsNs mb ∧ ∀ x : Str, x ≠ "__name__" → mb x = bootBuiltins x)
    (noS : mg "super" = none) (hroom : A.depth + 1 < recursionLimit)
    (hq : ∀ h' tk e d, Made s.heap h' e C d f v → R (.ok (.ret (.ref e))) { s with heap := h', toks := tk }) : codeAny (model prog w) A (.call (.ref C) ⟨[v], []⟩) R s := by
  obtain ⟨n1, n2, n3, n4, bm, n6, n7, n8, n9, n10, n11, m0, m1, m2, m3, m5, hC, hT⟩ := excInit_of X T.q
  obtain ⟨oI, hoI, hcI⟩ : ∃ oI, s.heap.get? fI = some oI ∧ oI.cls = .type "function" := by
    obtain ⟨o, ho, hc⟩ := Option.map_eq_some_iff.mp (show (K.lookup fI).map (·.cls) = some (.type "function") from beq_iff_eq.mp T.tI)
    exact ⟨o, X _ _ ho, hc⟩
  obtain ⟨hp, g, dr, tk, os⟩ := s
  have k : ∀ b o, hp.get? b = some o → ((hp.push (kdv_tup [v])).push (HandSPX.excO C hp.objs.size)).get? b = some o := fun b o e => Heap.get?_push_of_some _ (Heap.get?_push_of_some _ e)
  have hnew : ((hp.push (kdv_tup [v])).push (HandSPX.excO C hp.objs.size)).get? (hp.objs.size + 1) = some (HandSPX.excO C hp.objs.size) := by heap_get
  have hnx : K.lookup (hp.objs.size + 1) = none := by
    cases e : K.lookup (hp.objs.size + 1) with
    | none => rfl
    | some o =>
      have z : hp.objs.size + 1 < hp.objs.size := Heap.lt_size (show hp.get? (hp.objs.size + 1) = some o from X _ _ e)
      omega
  refine HandSPX.call_own T.base.fb hT hC (looks_findIn X T.iC) (fun self => exc_bind hoI hcI self) (size1 v) ?_
  obtain ⟨mb, b1, b2⟩ := Bl
  refine x_init (s := ⟨(hp.push (kdv_tup [v])).push (HandSPX.excO C hp.objs.size), g, dr, tk, os⟩) hf T (X.keeps k) (hlim.keeps k) (G.keeps k) ⟨mb, b1.keeps k, b2⟩ noS hnew hnx hroom fun h' tk' dx t1 M => ⟨rfl, hq h' tk' (hp.objs.size + 1) dx ?_⟩
  have big := M.dbig
  rw [Heap.size_push, Heap.size_push] at big
  exact ⟨fun b o e => M.keep b o (Nat.ne_of_lt (Nat.lt_succ_of_lt (Heap.lt_size e))) (k b o e), Nat.le_succ _, ⟨_, _, M.obj, rfl, rfl, rfl, rfl⟩, (by omega : hp.objs.size ≤ dx), M.dne, M.ns⟩
end
end T3.XI
namespace T3
open PySem PySem.Spec PyProof.Rows L2
theorem relO_one {f : Str} {v : V} {u : Value} (r : RelV v u) (g : Str) : RelO (List.lookup g [(f, v)]) (if g = f then some u else none) := by
  by_cases h : g = f
  · rw [if_pos h, List.lookup, show (g == f) = true from by rw [h]; exact beq_self_eq_true f]
    exact r
  · rw [if_neg h, List.lookup, show (g == f) = false from beq_eq_false_iff_ne.mpr h]
    trivial
section
variable {X : Cx} {nm f : Str} {C fI : Addr} {B newId initId : String} {bmB : List Value}
/-- C(e) -/
noncomputable def tMkX (C : Addr) (f : Str) (ta : TA) : L2.St → Hp → XK → Prop := fun σ H Q => ta σ H fun vs H1 => ∃ v, vs = [v] ∧ ∀ d, H1 d = none → Q (.ref C) (some d) (upd H1 d (.xd [(f, v)]))
theorem pmk_x {a : Expr} {ta : TA} {p pos : Pos} {k : Nat} (hf : f = "given" ∨ f = "index") (T : XI.XTxt X.prog X.K X.mg nm f C fI B newId initId bmB) (hr : Room k X.A) (ha : PA X [a] ta) (hg : Gl X nm) (noS : X.mg "super" = none)
    (he : starEach (a :: []) X.env = (false, eval a X.env) :: starEach [] X.env := by rfl) (hpl : (backTo pos (starEach [] X.env)).any (·.1) = false := by rfl) (hdb : (nm == ("__debug__" : Str)) = false := by decide) :
    PMk X (.Call (.Name nm p) [a] [] pos) (tMkX C f ta) := by
  intro pins s σ H Q I h
  refine wpAny_Call_Name_kw (ld_glob I hg T.gC ?_ hdb)
  refine PySem.W.callWith_K (h₀ := X.base) I.ok.mod.kin T.kC (thn (ha.run pos pins s σ H _ I h) fun us s1 hh => ?_) he hpl
  obtain ⟨vs, H1, I1, r1, v, rfl, q1⟩ := hh
  refine ⟨I1.kIn, ?_⟩
  cases r1 with
  | cons rv rn =>
  rename_i u us'
  cases rn
  have hlim := I1.nolimit
  have room : X.A.depth + 1 < recursionLimit := by have := hr.dp; omega
  have blt : ∃ mb, s1.heap.Ns builtinsNs mb ∧ ∀ x : Str, x ≠ "__name__" → mb x = bootBuiltins x := let ⟨mb, b1, b2⟩ := I1.ok.mod.blt; ⟨mb, b1.keeps I1.bk, b2⟩
  refine wpAny_call (XI.x_made hf T I1.kIn hlim (I1.ok.mod.glob.keeps I1.bk) blt noS room fun h' tk e d M => ?_)
  show MkP X pins σ Q (.ref e) { s1 with heap := h', toks := tk }
  obtain ⟨oe, fv, hoe, hc, hd, hdat, h1⟩ := M.obj
  obtain ⟨G, g1, g2⟩ := restrict h' fun b => decide (b ≠ e)
  have gk : ∀ b, b ≠ e → G.get? b = h'.get? b := fun b hb => g1 b (decide_eq_true hb)
  have ge : G.get? e = none := g2 e (by simp)
  have old : ∀ b o, s1.heap.get? b = some o → G.get? b = some o := fun b o q => (gk b (Nat.ne_of_lt (Nat.lt_of_lt_of_le (Heap.lt_size q) M.new))).trans (M.keep b o q)
  have ob : ObjOk X.prog X.w (upd H1 d (.xd [(f, v)])) G d (.xd [(f, v)]) := ⟨_, M.ns.at (fun o q => (gk d M.dne).trans q), fun g => relO_one rv g⟩
  have J : Inv X pins σ (upd H1 d (.xd [(f, v)])) { s1 with heap := G, toks := tk } := I1.laid (t' := tk) old M.dbig ob
  refine ⟨e, oe, fv, { s1 with heap := G, toks := tk }, _, .ref C, some d, rfl, J, fun b o q => ?_, ge, hoe, ⟨hc, hd⟩, hdat, h1, ?_, rfl, I1.bare, raises_own T.exC T.tyC, q1 d (I1.hok.fresh M.dbig)⟩
  · by_cases hb : b = e
    · have q' : G.get? b = some o := q
      rw [hb, ge] at q'
      cases q'
    · exact (gk b hb).symm.trans q
  · rw [upd_ne (Ne.symm M.dne)]
    exact I1.hok.fresh M.new
end
end T3
namespace T3
open PySem PySem.Spec PyProof.Rows L2
noncomputable def sRaiseX (c : Nat) (f : Str) (e : CE) : CS := fun ρ S => match e ρ S with
  | .ok (.val d) S1 => .exc ⟨c, [f], [d]⟩ ρ S1
  | .ok (.ref _) _ => .bad
  | .exc x S1 => .exc x ρ S1
  | .bad => .bad
section
variable {X : Cx} {cl : ClT} {W : WX} {nm f : Str} {fI : Addr} {B newId initId : String} {bmB : List Value}
theorem pm_raiseX (c : Nat) {a : Expr} {e : CE} {p pos pos2 : Pos} {k : Nat} (hc : X.calm = true) (tk : Takes X W) (hf : f = "given" ∨ f = "index") (T : XI.XTxt X.prog X.K X.mg nm f (cl c) fI B newId initId bmB) (hr : Room k X.A) (noS : X.mg "super" = none) (ha : PE X a (tM X.K cl W e)) (hg : Gl X nm := by rfl)
    (he : starEach (a :: []) X.env = (false, eval a X.env) :: starEach [] X.env := by rfl) (hpl : (backTo pos (starEach [] X.env)).any (·.1) = false := by rfl) (hdb : (nm == ("__debug__" : Str)) = false := by decide) :
    PS X (.Raise (some (.Call (.Name nm p) [a] [] pos)) none pos2) (tMS X.K cl W (sRaiseX c f e)) := PS.imp (ps_raise hc tk (pmk_x hf T hr (pm_cons ha pm_nil (hs := he)) hg noS he hpl hdb)) fun E σ H h => by
  obtain ⟨B0, m, S, ρ, o, en, fin⟩ := h
  refine ⟨B0, m, S, ρ, o, en, ?_⟩
  unfold sRaiseX at fin
  unfold cCons
  cases hr : e ρ S with
  | bad => rw [hr] at fin; exact fin.elim
  | exc x S1 =>
    rw [hr] at fin
    exact fun c' d' H' m' s' o' x' => fin c' d' σ H' m' s' o' (s'.env o en) x'
  | ok x S1 =>
    rw [hr] at fin
    cases x with
    | ref i => exact fin.elim
    | val d =>
      intro vs H1 m1 s1 o1 r1
      cases r1 with
      | cons q q2 =>
      cases q2
      refine ⟨_, rfl, fun dx hd => ?_⟩
      exact fin _ _ σ _ m1 (s1.trans (Step.new hd)) (o1.new hd) ((s1.trans (Step.new hd)).env o en) ⟨rfl, .inr ⟨dx, _, rfl, upd_same, o1.fresh hd, rfl, .cons (Rep.mono (Kp.new hd) q) .nil⟩⟩
end
end T3
namespace T3
open PySem PySem.Spec PyProof.Rows L2 HotX L2H
abbrev SpE := (Addr × Obj) → Sp
structure FnE (P : Program) (w : World) (K : PySem.W.Frag) (mg : Str → Option Value) (base : Heap) (CX : CXT) (k : Nat) (f : Addr) (fd : FuncData) (ps : List Str) (sp : SpE) : Prop where
  len : ∀ p vs H Q E, sp p vs H Q E → vs.length = ps.length
  run : ∀ {A : Around} {outer : List Env} {s : Shared} {H : Hp} {args : Args} {us : List Value} {vs : List V} {Q : VK} {E : XK} {p : Addr × Obj}, RoomH k A → PinOk outer H s p → Env0 P w K mg base A outer s H →
    BindsTo s fd args (ps.zip us) → Vals vs us → sp p vs H Q E → codeAny (model P w) A (.call (.ref f) args) (CR CX outer P w H s Q E) s
theorem fnE_of {CX : CXT} {P : Program} {w : World} {K : PySem.W.Frag} {mg : Str → Option Value} {base : Heap} {k : Nat} {f : Addr} {name qual : Str} {params : Arguments} {body : List Stmt} {scope : Scope} {dV kV doc pm cdv ct oc : Value} {an od : Option Addr}
    {osl : Array (Option Value)} {N ps : List Str} {sp : SpE} (lk : K.lookup f = some ⟨oc, od, .func (PySem.W.fnOf name qual params body scope dV kV doc pm an cdv ct), osl⟩) (hcd : PySem.W.codeIn K cdv qual = true) (S : FnScope N ps scope)
    (len : ∀ p vs H Q E, sp p vs H Q E → vs.length = ps.length)
    (hb : ∀ (A : Around) (outer : List Env) (s : Shared) (H : Hp) (vs : List V) (Q : VK) (E : XK) (p : Addr × Obj), RoomH k (A.deeper (envOfC qual scope s.heap.objs.size f cdv)) → sp p vs H Q E →
      ∃ t, PSs (cxH CX P w K mg base N qual scope f cdv A outer s H E p) body t ∧ t { nx := fun _ H' => Q .non H', rt := Q } (L2.start N vs) H) :
    FnE P w K mg base CX (k + 1) f (PySem.W.fnOf name qual params body scope dV kV doc pm an cdv ct) ps sp where
  len := len
  run := fun {A outer s H args us vs Q E p} hr hpin e0 bind r hsp => by
    have kin : K.In s.heap := e0.mod.kin.keeps fun b o e => (e0.bs b o e).1
    have nol : s.heap.NoLimit := e0.mod.nolimit.keeps fun b o e => (e0.bs b o e).1
    have kinds : ∀ y ∈ ps.zip us, scope.names.lookup y.1 = some .local ∨ (scope.names.lookup y.1 = some .cell ∧ ((cellsFrom (s.heap.objs.size + 1) scope.names []).lookup y.1).isSome = true) := by
      rintro ⟨n, v⟩ hy
      rcases S.par n (List.of_mem_zip hy).1 with q | q
      · exact .inl q
      · exact .inr ⟨q, PySem.W.cellsFrom_some _ _ _ (.inl q)⟩
    refine codeAny_call_function hr.depth (kin _ _ lk) rfl S.co S.gen rfl (PySem.W.codeRec_of kin hcd) (bind _ _ _ _ (wpAny_newFunctionEnv_cells S.kind kinds fun env he s1 x => ?_))
    subst he
    obtain ⟨t, ht, hq⟩ := hb A outer s H vs Q E p (hr.deeper _) hsp
    have J0 : Inv (cxH CX P w K mg base N qual scope f cdv A outer s H E p) [] (L2.start N vs) H s1 := inv_startH S hpin e0 (len _ _ _ _ _ hsp) r x
    refine ⟨nol.keeps x.toInCall.keep, codeAny_func (wpAny_mono (ht.run [] s1 (L2.start N vs) H _ J0 hq) (fun fl s' hs => ?_) fun e s' hs => hs)⟩
    cases fl with
    | ret u =>
      obtain ⟨v, σ', H', J, rv, q⟩ := hs
      exact ⟨v, H', J.os, J.bare, J.base, J.hok, rv, q⟩
    | next =>
      obtain ⟨σ', H', J, q⟩ := hs
      exact ⟨V.non, H', J.os, J.bare, J.base, J.hok, rfl, q⟩
    | brk =>
      obtain ⟨_, _, _, q⟩ := hs
      exact q.elim
    | cont =>
      obtain ⟨_, _, _, q⟩ := hs
      exact q.elim
section
variable {X : Cx} {CX : CXT} {k : Nat} {f : Addr} {fd : FuncData} {ps : List Str} {sp : SpE} {E : L2.St → XK} {x : Str} {q pos : Pos} {e : Expr} {es : List Expr} {t : TA} {p : Addr × Obj}
theorem run_fnE {pins : List (Addr × Obj)} {σ : L2.St} {H : Hp} {s : Shared} {Q : VK} {us : List Value} {vs : List V} (F : FnE X.prog X.w X.K X.mg X.base CX k f fd ps sp) (hr : RoomH k X.A) (hp : p ∈ X.pn) (hb : Binds X.K fd ps []) (hx : PassesAt CX X σ (E σ))
    (I : Inv X pins σ H s) (r : Vals vs us) (h : sp p vs H Q (E σ)) : wpAny (model X.prog X.w) X.A (call (.ref f) us) (EP X pins σ Q) X.xe s := by
  have hl : us.length = ps.length := r.length.symm.trans (F.len _ _ _ _ _ h)
  have b := hb s us I.kIn (by rw [List.append_nil]; exact hl)
  rw [List.append_nil] at b
  have z := I.pin p (List.mem_append_left _ hp)
  have hpin : PinOk X.stack H s p := ⟨z.1, z.2.1, fun hm => (List.mem_cons.mp (I.stkSub p.1 hm)).elim z.2.2.1 z.2.2.2.1, z.2.2.2.2⟩
  refine wpAny_call (codeAny_mono (F.run hr hpin I.env0 b r h) fun res s' hq => ?_)
  match res, hq with
  | .error e, hq => exact hx pins H s e s' I hq
  | .ok (.ret u), hq => exact I.after hq
  | .ok .next, hq => exact hq.elim
  | .ok .brk, hq => exact hq.elim
  | .ok .cont, hq => exact hq.elim
/-- f(e, ..) within a suite -/
noncomputable def tCallE (p : Addr × Obj) (sp : SpE) (E : L2.St → XK) (t : TA) : TE := fun σ H Q => t σ H fun vs H1 => sp p vs H1 Q (E σ)
theorem pe_callE (F : FnE X.prog X.w X.K X.mg X.base CX k f fd ps sp) (hr : RoomH k X.A) (hp : p ∈ X.pn) (hg : Gl X x) (hm : X.mg x = some (.ref f)) (hk : PySem.W.keepIn X.K (.ref f) = true) (hb : Binds X.K fd ps []) (hx : ∀ σ, PassesAt CX X σ (E σ))
    (ha : PA X (e :: es) t) (hdb : (x == ("__debug__" : Str)) = false := by decide) (he : starEach (e :: es) X.env = (false, eval e X.env) :: starEach es X.env := by rfl) (hpl : (backTo pos (starEach es X.env)).any (·.1) = false := by rfl) :
    PE X (.Call (.Name x q) (e :: es) [] pos) (tCallE p sp E t) := ⟨fun pins s σ H Q I h =>
  wpAny_Call_Name_kw (ld_glob I hg hm (PySem.W.callWith_K (h₀ := X.base) I.ok.mod.kin hk (thn (ha.run pos pins s σ H _ I h) fun us s1 ⟨vs, H1, I1, r, q⟩ => ⟨I1.kIn, run_fnE F hr hp hb (hx σ) I1 r q⟩) he hpl) hdb)⟩
end
end T3
namespace T3
open PySem PySem.Spec PyProof.Rows L2
/-- the error p of the context X: its class D, its dict dd -/
structure HeldE (X : Cx) (p : Addr × Obj) (D dd : Addr) : Prop where
  pn : p ∈ X.pn
  cls : p.2.cls = .ref D
  dict : p.2.dict = some dd
  data : ∃ vs, p.2.data = .fields vs
theorem HeldE.inst {X : Cx} {p : Addr × Obj} {D dd : Addr} (h : HeldE X p D dd) {pins : List (Addr × Obj)} {σ : L2.St} {H : Hp} {s : Shared} (I : Inv X pins σ H s) {fs : List (Str × V)} (e : H dd = some (.xd fs)) :
    ∃ od, PySem.W.InstAt s.heap p.1 p.2 D (some od) ∧ (∀ n v, fs.lookup n = some v → ∃ u, PySem.W.lookIn n od = some (some u) ∧ RelV v u) := by
  have g := (I.pin p (List.mem_append_left _ h.pn)).1
  obtain ⟨mA, hns, hr⟩ := (I.hok dd _ e : ObjOk X.prog X.w H s.heap dd (.xd fs))
  obtain ⟨od, ho, hl⟩ := lookIn_ns hns
  obtain ⟨vs, hd⟩ := h.data
  refine ⟨od, ⟨g, h.cls, by unfold PySem.W.notCls; rw [hd] <;> rfl, by rw [h.dict]; exact ho⟩, fun n v l => ?_⟩
  obtain ⟨u, hu, ru⟩ := RelO.some_of (v := v) (o := mA n) (by rw [← l]; exact hr n)
  exact ⟨u, by rw [hl, hu], ru⟩
/-- what a class says so that its errors are asked and read -/
structure ClsE (K : PySem.W.Frag) (D : Addr) : Prop where
  xf : XfC K D
  cls : (PySem.W.clsIn K D).isSome = true
  ha : PySem.W.findIn K (.ref D) "__class__" = some (some (.builtin "object.__class__"))
  hn : PySem.W.specialIn K (.builtin "object.__class__") "__get__" = some (some (.builtin "getset_descriptor.__get__"))
  ht : PySem.W.takesIn K (.builtin "object.__class__") = some true
  hm : PySem.W.mroIn K D (.type "object") = some true
/-- the error's reading: its address in the slot, its dict told -/
theorem rep_held {K : PySem.W.Frag} {cl : ClT} {N : Addr → Prop} {H : Hp} {v : V} {ns : List Str} {ds : List D} (r : Rep K cl N H v (.ins 1000 ns ds)) : v = .ref (cl 1000) ∧ ∃ xs, H (cl 1001) = some (.xd (ns.zip xs)) ∧ ns.length = xs.length ∧ RepL K cl N H xs ds := by
  cases r with
  | ins t q =>
    rcases t with ⟨i, _⟩ | ⟨rfl, _, e, _, l⟩ | ⟨_, i, _⟩
    · exact absurd i (by decide)
    · exact ⟨rfl, _, e, l, q⟩
    · exact absurd i (by decide)
section
variable {X : Cx} {cl : ClT} {W : WX} {p : Addr × Obj} {D dd : Addr}
noncomputable def rIsX (K : PySem.W.Frag) (D a dd : Addr) : List V → Hp → VK → Prop := fun xs H Q => ∃ (c : V) (cv : Value) (b : Bool) (fs : List (Str × V)), xs = [.ref a, c] ∧ (∀ u, RelV c u → u = cv) ∧ H dd = some (.xd fs) ∧ PySem.W.kitOne K (.ref D) cv = some b ∧ Q (.bl b) H
theorem call_isX (hE : HeldE X p D dd) (C : ClsE X.K D) : CallR X (.builtin "isinstance") (rIsX X.K D p.1 dd) := by
  rintro pins s σ H xs us Q I r ⟨c, cv, b, fs, rfl, hcv, e, hk, q⟩
  match r with
  | .cons rx (.cons rt .nil) =>
    cases rx
    have ec := hcv _ rt
    subst ec
    obtain ⟨od, J, _⟩ := hE.inst I e
    exact PySem.W.kia_one (PySem.W.kitx_exc C.cls C.xf.ga C.xf.gg C.xf.exC C.ha C.hn C.ht C.hm) I.kIn J hk (fun z => nomatch z) fun tk => ⟨.bl b, H, I.kept (t' := tk) fun _ _ z => z, rfl, q⟩
/-- isinstance(e, T), e the held error: b is what its class says -/
noncomputable def cIsX (c : CE) (b : Bool) : CE := fun ρ S => (c ρ S).bind fun x S1 => match x with
  | .val (.ins 1000 _ _) => .ok (.val (.bl b)) S1
  | _ => .bad
theorem pm_isX {x : Str} {e : Expr} {c : CE} {b : Bool} {t : V} {cv : Value} {p1 q pos : Pos} (hE : HeldE X p D dd) (C : ClsE X.K D) (h0 : cl 1000 = p.1) (h1 : cl 1001 = dd) (he : PE X e (tM X.K cl W c)) (ht : PE X (.Name x q) (tC t)) (hcv : ∀ u, RelV t u → u = cv) (hk : PySem.W.kitOne X.K (.ref D) cv = some b)
    (hm : X.mg "isinstance" = none) (hg : Gl X "isinstance" := by rfl) (hs : starEach [e, .Name x q] X.env = (false, eval e X.env) :: starEach [.Name x q] X.env := by rfl) (hs2 : starEach [.Name x q] X.env = (false, eval (.Name x q) X.env) :: starEach [] X.env := by rfl)
    (hpl : (backTo pos (starEach [.Name x q] X.env)).any (·.1) = false := by rfl) : PE X (.Call (.Name "isinstance" p1) [e, .Name x q] [] pos) (tM X.K cl W (cIsX c b)) := by
  have ha : PA X [e, .Name x q] (tCons (tM X.K cl W c) (tCons (tC t) tNil)) := pa_cons he (pa_cons ht pa_nil hs2) hs
  refine PE.imp (pe_callB (call_isX hE C) hg hm (by rfl) ha (by decide) (by decide) hs hpl) fun σ H Q h => ?_
  obtain ⟨B, m, S, ρ, o, en, fin⟩ := h
  refine ⟨B, m, S, ρ, o, en, Fin.bind fin fun y S1 v H1 m1 s1 o1 r1 f1 => ?_⟩
  split at f1
  · rename_i ns ds
    obtain ⟨rfl, xs, hx, _, _⟩ := rep_held r1
    rw [h1] at hx
    exact ⟨t, cv, b, _, by rw [h0], hcv, hx, hk, f1.here o1 (.bl _)⟩
  · exact f1.elim
theorem lookup_rep {K : PySem.W.Frag} {N : Addr → Prop} {H : Hp} {f : Str} {d : T3.D} : ∀ {ns : List Str} {xs : List V} {ds : List T3.D}, RepL K cl N H xs ds → (ns.zip ds).lookup f = some d → ∃ v, (ns.zip xs).lookup f = some v ∧ Rep K cl N H v d
  | [], _, _, _, h => by simp at h
  | _ :: _, _, _, .nil, h => by simp at h
  | n :: ns, _, _, .cons a r, h => by
    simp only [List.zip_cons_cons, List.lookup_cons] at h ⊢
    by_cases e : (f == n) = true
    · rw [e] at h ⊢
      injection h with h
      subst h
      exact ⟨_, rfl, a⟩
    · have e : (f == n) = false := by simpa using e
      rw [e] at h ⊢
      exact lookup_rep r h
/-- e.f, e the held error -/
noncomputable def cFldX (f : Str) (c : CE) : CE := fun ρ S => (c ρ S).bind fun x S1 => match x with
  | .val (.ins 1000 ns ds) => (match (ns.zip ds).lookup f with
    | some d => .ok (.val d) S1
    | none => .bad)
  | _ => .bad
theorem pm_fldX {f : Str} {e : Expr} {c : CE} {pos : Pos} (hE : HeldE X p D dd) (C : XfC X.K D) (hno : PySem.W.findIn X.K (.ref D) f = some none) (h0 : cl 1000 = p.1) (h1 : cl 1001 = dd) (he : PE X e (tM X.K cl W c)) (hb : attributeBase e f X.env (eval e X.env) = eval e X.env := by rfl) :
    PE X (.Attribute e f pos) (tM X.K cl W (cFldX f c)) := by
  let r : TE := fun σ H Q => tM X.K cl W c σ H fun x H1 => x = .ref p.1 ∧ ∃ (fs : List (Str × V)) (v : V), H1 dd = some (.xd fs) ∧ fs.lookup f = some v ∧ Q v H1
  have step : PE X (.Attribute e f pos) r := by
    refine ⟨fun pins s σ H Q I h => attr_of hb (thn (he.run pins s σ H _ I h) fun u s1 hh => ?_)⟩
    obtain ⟨x, H1, I1, rx, rfl, fs, v, ea, l, q⟩ := hh
    obtain rfl : u = Value.ref p.1 := rx
    obtain ⟨od, J, fl⟩ := hE.inst I1 ea
    obtain ⟨w, hw, rw'⟩ := fl f v l
    exact HandSPX.exc_get I1.kIn J C.ga C.gg C.exC (PySem.W.findObj_own C.hdC hno rfl hw) (handed_of rw') ⟨v, H1, I1.tok _, rw', q⟩
  refine PE.imp step fun σ H Q h => ?_
  obtain ⟨B, m, S, ρ, o, en, fin⟩ := h
  refine ⟨B, m, S, ρ, o, en, Fin.bind fin fun y S1 v H1 m1 s1 o1 r1 f1 => ?_⟩
  split at f1
  · rename_i ns ds
    obtain ⟨rfl, xs, hx, _, rl⟩ := rep_held r1
    rw [h1] at hx
    split at f1
    · rename_i d hd
      obtain ⟨w, hw, rw'⟩ := lookup_rep rl hd
      exact ⟨by rw [h0], _, w, hx, hw, f1.here o1 rw'⟩
    · exact f1.elim
  · exact f1.elim
end
end T3
namespace T3
open PySem PySem.Spec PyProof.Rows L2 LamX
/-- all but the tables stays; nothing is lost -/
noncomputable def Ext3 (H H' : Hp) : Prop := ExtN H H' ∧ ∀ b, H b ≠ none → H' b ≠ none
theorem Ext3.refl (H : Hp) : Ext3 H H := ⟨ExtN.refl H, fun _ h => h⟩
section
variable {X : Cx} {pins : List (Addr × Obj)} {σ : L2.St} {H : Hp} {s : Shared}
theorem lam_make3 {T : List (Addr × Str)} {co P : Addr} {prs : Arguments} {bod : Expr} {scp : Scope} {pos : Pos} {E : Value → Shared → Prop} {Q : Value → Shared → Prop} (I : Inv X pins σ H s) (TB : TabB X.base X.mg co P) (hco : X.env.code = .ref co)
    (hin : (P, X.env.qual ++ "<lambda>") ∈ T) (one : ∀ p ∈ T, p.1 = P → p.2 = X.env.qual ++ "<lambda>") (tb : Tabs T H) (nodef : defaultsOf prs X.env = ([], [])) (free : ∀ y ∈ scp.names, y.2 = .free → ∃ c, X.env.cells.lookup y.1 = some c)
    (go : ∀ (f c' : Addr) (pm ctv : Value) (H1 : Hp) (s' : Shared), Inv X pins σ H1 s' → Ext3 H H1 → Tabs T H1 → s'.heap.get? f = some (PySem.W.kla_obj "<lambda>" (X.env.qual ++ "<lambda>") prs bod scp (cloFrom X.env.cells scp.names []) pm c' ctv) → H1 f = none → f ∉ frs X.stack →
      H1 c' = some (CodeO c' (X.env.qual ++ "<lambda>")) → Q (.ref f) s') : wpAny (model X.prog X.w) X.A (eval (.Lambda prs bod scp pos) X.env) Q E s := by
  obtain ⟨tri, atP, triok, known⟩ := tb _ hin
  refine PySem.W.kla_eval nodef ?_
  have bm : s.heap.BuiltinsAt X.mg P := TB.bm.keeps I.bk
  have getP : s.heap.get? P = some { cls := .none, data := .fields tri } := I.hok P _ atP
  have outside : ∀ f, s.heap.objs.size ≤ f → f ∉ frs X.stack := fun f hf hm => (List.mem_cons.mp (I.stkSub _ hm)).elim
    (fun e => Nat.lt_irrefl _ (Nat.lt_of_lt_of_le (e ▸ I.lt) hf)) fun e => I.nofs hf e
  cases found : codeAmong pos tri.toList with
  | some cv =>
    obtain ⟨c1, rfl, isC⟩ := known pos cv found
    refine PySem.W.kla_makeFunctionHit (mg := X.mg) (c := co) (P := P) (ps := tri) (closure_ok free) I.ok.glob (I.mod.glob.keeps I.bk) hco (TB.code.keeps I.bk) getP triok found bm fun ctv h1 tk kp sz => ?_
    have J : Inv X pins σ H { s with heap := h1.push (PySem.W.kla_obj "<lambda>" (X.env.qual ++ "<lambda>") prs bod scp (cloFrom X.env.cells scp.names []) ((X.mg "__name__").getD .none) c1 ctv), toks := tk } := I.kept fun b o e => Heap.get?_push_of_some _ (kp b o e)
    exact go h1.objs.size c1 ((X.mg "__name__").getD .none) ctv H _ J (Ext3.refl H) tb (Heap.get?_push_size _ rfl) (I.hok.fresh sz) (outside _ sz) isC
  | none =>
    refine PySem.W.kla_makeFunction (mg := X.mg) (c := co) (P := P) (ps := tri) (closure_ok free) I.ok.glob (I.mod.glob.keeps I.bk) hco (TB.code.keeps I.bk) getP triok found TB.gP bm fun c1 ctv h1 tk kp above below rec tab => ?_
    obtain ⟨c2, oc, vs, t, e2, g1, g2, g3⟩ := rec
    cases e2
    have sz : s.heap.objs.size ≤ h1.objs.size := Nat.le_trans above (Nat.le_of_lt below)
    have newC : H c1 = none := I.hok.fresh above
    have J := inv_table (t' := tk) (more := #[rawInt pos.line, rawInt pos.col, .ref c1]) (h' := h1.push (PySem.W.kla_obj "<lambda>" (X.env.qual ++ "<lambda>") prs bod scp (cloFrom X.env.cells scp.names []) ((X.mg "__name__").getD .none) c1 ctv)) I atP
      (fun b o ne e => Heap.get?_push_of_some _ (kp b o ne e)) (Heap.get?_push_of_some _ tab) above ⟨oc, vs, t, Heap.get?_push_of_some _ g1, g2, g3⟩
    have ext : ExtN H (upd (upd H P (.tbl (tri ++ #[rawInt pos.line, rawInt pos.col, .ref c1]))) c1 (CodeO c1 (X.env.qual ++ "<lambda>"))) := by
      intro b o e nt
      have n2 : b ≠ P := fun z => nt tri (Option.some.inj (e.symm.trans (z ▸ atP)))
      rw [upd_ne (ne_of_none e newC), upd_ne n2]
      exact e
    have live : ∀ b, H b ≠ none → upd (upd H P (.tbl (tri ++ #[rawInt pos.line, rawInt pos.col, .ref c1]))) c1 (CodeO c1 (X.env.qual ++ "<lambda>")) b ≠ none := fun b hb => by
      by_cases z1 : b = c1
      · rw [z1, upd_same]; exact fun q => by cases q
      · rw [upd_ne z1]
        by_cases z2 : b = P
        · rw [z2, upd_same]; exact fun q => by cases q
        · rw [upd_ne z2]; exact hb
    have split : (tri ++ #[rawInt pos.line, rawInt pos.col, .ref c1]).toList = tri.toList ++ [rawInt pos.line, rawInt pos.col, .ref c1] := by simp
    refine go h1.objs.size c1 ((X.mg "__name__").getD .none) ctv _ _ J ⟨ext, live⟩ (fun p hp => ?_) (Heap.get?_push_size _ rfl) ?_ (outside _ sz) upd_same
    · by_cases same : p.1 = P
      · rw [one p hp same, same]
        refine ⟨tri ++ #[rawInt pos.line, rawInt pos.col, .ref c1], by rw [upd_ne (ne_of_none atP newC), upd_same], by rw [split]; exact PySem.TriplesOk_snoc _ _ _ _ triok, fun p1 cv hcv => ?_⟩
        rw [split] at hcv
        rcases among_app _ triok hcv with z | z
        · obtain ⟨c0, q1, q2⟩ := known p1 cv z
          exact ⟨c0, q1, ext _ _ q2 codeO_ne⟩
        · exact ⟨c1, z, upd_same⟩
      · obtain ⟨tri2, b1, b2, b3⟩ := tb p hp
        refine ⟨tri2, by rw [upd_ne (ne_of_none b1 newC), upd_ne same]; exact b1, b2, fun p1 cv hcv => ?_⟩
        obtain ⟨c0, q1, q2⟩ := b3 p1 cv hcv
        exact ⟨c0, q1, ext _ _ q2 codeO_ne⟩
    · have w1 : h1.objs.size ≠ c1 := Nat.ne_of_gt below
      have w2 : h1.objs.size ≠ P := Nat.ne_of_gt (Nat.lt_of_lt_of_le (Heap.lt_size getP) sz)
      rw [upd_ne w1, upd_ne w2]
      exact I.hok.fresh sz
end
section
variable {X : Cx} {pins : List (Addr × Obj)} {σ : L2.St} {H : Hp} {s : Shared}
/-- the lambda called where it was handed to (the guards told) -/
theorem act3 {CXg : CXT} {Eg : XK} {Ng : List Str} {qg : Str} {sg : Scope} {g f c1 : Addr} {cdg pm ctv : Value} {prs : Arguments} {bod : Expr} {scp : Scope} {k i : Nat} {a : Str} {pn : List (Addr × Obj)} {xe : Value → Shared → Prop} {W : WX} {E : XK} {tb : TE} {p1 p2 : Pos}
    (I : Inv X pins σ H s) (L : LamS X.env.scope scp) (atf : s.heap.get? f = some (PySem.W.kla_obj "<lambda>" (X.env.qual ++ "<lambda>") prs bod scp (cloFrom X.env.cells scp.names []) pm c1 ctv)) (nof : H f = none) (frf : f ∉ frs X.stack)
    (nob : bindArgs (PySem.W.kla_fn "<lambda>" (X.env.qual ++ "<lambda>") prs bod scp (cloFrom X.env.cells scp.names []) pm (.ref c1) ctv) ⟨[], []⟩ = pure []) (gd : X.A.guards = some [])
    (tk : Takes ((cxOf CXg X.prog X.w X.K X.mg X.base Ng qg sg g cdg X.A X.stack s H Eg).tr pn xe) W) (hW : ∀ cls d σ1 H1, E cls d H1 → W cls d σ1 H1) (hr : Room (k + 1) (X.A.deeper (envOfC qg sg s.heap.objs.size g cdg)))
    (hbod : ∀ (A : Around) (outer : List Env) (s : Shared) (H : Hp), (A.deeper (lamEnv X scp s.heap.objs.size f c1)).guards = some [] → Room k (A.deeper (lamEnv X scp s.heap.objs.size f c1)) → PE (lamCx X A outer s H E scp f c1) bod tb)
    (hN : Ng[i]? = some a) (hv : Vis sg a) (hd : (a == ("__debug__" : Str)) = false := by decide) (hcd : (a == ("__classdict__" : Str)) = false := by decide) :
    PE ((cxOf CXg X.prog X.w X.K X.mg X.base Ng qg sg g cdg X.A X.stack s H Eg).tr pn xe) (.Call (.Name a p1) [] [] p2) (fun σZ HZ Q => σZ[i]? = some (some (.ref f)) ∧ HZ c1 = some (CodeO c1 (X.env.qual ++ "<lambda>")) ∧ tb σ HZ Q) := by
  refine ⟨fun pinsZ sZ σZ HZ Q IZ hh => ?_⟩
  obtain ⟨slot, isC, ht⟩ := hh
  refine wpAny_Call_Name_kw (thn ((pe_var (pos := p1) (i := i) hN hv hd hcd).run pinsZ sZ σZ HZ (fun v H1 => v = .ref f ∧ H1 = HZ) IZ ⟨.ref f, slot, rfl, rfl⟩) fun u s1 hh => ?_)
  obtain ⟨v, H1, I1, r1, rfl, rfl⟩ := hh
  obtain rfl : u = Value.ref f := r1
  have here : s1.heap.get? f = some (PySem.W.kla_obj "<lambda>" (X.env.qual ++ "<lambda>") prs bod scp (cloFrom X.env.cells scp.names []) pm c1 ctv) := I1.base.keep f _ atf nof frf (fun z => nomatch (show f ∈ ([] : List Addr) from z))
  refine PySem.W.callWith_F0 ⟨_, _, _, _, here⟩ ?_
  have un : Un (frs X.stack) [] H H1 s.heap s1.heap := I1.base
  obtain ⟨⟨oc, vs, t, g1, g2, g3⟩, _, _⟩ := I1.hok c1 _ isC
  have run : codeAny (model X.prog X.w) (X.A.deeper (envOfC qg sg s.heap.objs.size g cdg)) (.call (.ref f) ⟨[], []⟩) (CR (L2.CX X.prog X.w) (envOfC qg sg s.heap.objs.size g cdg :: X.stack) X.prog X.w H1 s1 Q E) s1 := by
    refine PySem.W.kla_callFunE hr.depth here rfl L.co L.gen rfl ⟨c1, oc, vs, t, rfl, g1, g2, g3⟩ ?_
    rw [nob]
    refine wpAny_pure (wpAny_newFunctionEnv (fun y hy => (L.own y hy).2) (fun y hy => absurd hy (by simp)) (fun h1 ns1 sb1 => ⟨I1.nolimit.fresh _ sb1, ?_⟩) L.kind)
    show codeAny _ _ (.expr bod (lamEnv X scp s1.heap.objs.size f c1)) _ _
    have kp : ∀ b o, s1.heap.get? b = some o → h1.get? b = some o := fun b o e => sb1.extBut b o (Nat.ne_of_lt (Heap.lt_size e)) (Heap.get?_push_of_some _ e)
    have J : Inv (lamCx X (X.A.deeper (envOfC qg sg s.heap.objs.size g cdg)) (envOfC qg sg s.heap.objs.size g cdg :: X.stack) s1 H1 E scp f c1) [] σ H1 { s1 with heap := h1, toks := s1.toks + ([] : List (Str × Value)).length } := lam_start2 I L I1.env0 hr.hd un ns1 kp
    refine PySem.W.kla_codeExpr (wpAny_mono ((hbod _ _ s1 H1 (guards_deeper (guards_deeper gd)) (hr.deeper _)).run [] _ _ H1 Q J ht) (fun v s2 hq => ?_) fun e s2 hq => hq)
    obtain ⟨w1, H2, J2, rv, q⟩ := hq
    exact ⟨w1, H2, J2.os, J2.bare, J2.base, J2.hok, rv, q⟩
  have pass : Passes (L2.CX X.prog X.w) ((cxOf CXg X.prog X.w X.K X.mg X.base Ng qg sg g cdg X.A X.stack s H Eg).tr pn xe) E := passes_call tk hW
  refine wpAny_call (codeAny_mono run fun r s2 hq => ?_)
  match r, hq with
  | .error e, hq => exact pass pinsZ σZ H1 s1 e s2 I1 hq
  | .ok (.ret u), hq => exact I1.after hq
  | .ok .next, hq => exact False.elim hq
  | .ok .brk, hq => exact False.elim hq
  | .ok .cont, hq => exact False.elim hq
end
noncomputable def tLam3 (T : List (Addr × Str)) (TT : (XK → Hp → VK → Prop) → Hp → VK → Prop) (t : XK → TE) : TE := fun σ H Q => Tabs T H ∧ ∀ H1, Ext3 H H1 → Tabs T H1 → TT (fun E H2 Q2 => t E σ H2 Q2) H1 Q
section
variable {X : Cx}
/-- x(lambda: bod) -/
theorem pe_lam3 {T : List (Addr × Str)} {TT : (XK → Hp → VK → Prop) → Hp → VK → Prop} {x a : Str} {g co P : Addr} {k : Nat} {pg : Arguments} {bg : List Stmt} {sg : Scope} {dV kV doc pm cdv ct oc : Value} {an od : Option Addr} {osl : Array (Option Value)} {Ng : List Str}
    {prs : Arguments} {bod : Expr} {scp : Scope} {t : XK → TE} {p lpos pos : Pos} (hg : Gl X x) (hm : X.mg x = some (.ref g)) (hk : PySem.W.keepIn X.K (.ref g) = true)
    (lk : X.K.lookup g = some ⟨oc, od, .func (PySem.W.fnOf x x pg bg sg dV kV doc pm an cdv ct), osl⟩) (hcg : PySem.W.codeIn X.K cdv x = true) (hb : L2.Binds X.K (PySem.W.fnOf x x pg bg sg dV kV doc pm an cdv ct) [a] []) (Sg : FnScope Ng [a] sg) (hNg : Ng[0]? = some a) (hva : Vis sg a)
    (hG : GivesTo X Ng x sg g cdv bg a (X.env.qual ++ "<lambda>") TT) (TB : TabB X.base X.mg co P) (hcode : X.env.code = .ref co) (hin : (P, X.env.qual ++ "<lambda>") ∈ T) (one : ∀ p ∈ T, p.1 = P → p.2 = X.env.qual ++ "<lambda>") (hr : Room (k + 2) X.A)
    (L : LamS X.env.scope scp) (nodef : defaultsOf prs X.env = ([], [])) (nobind : ∀ (q : Str) (cl : List (Str × Addr)) (pm cv ctv : Value), bindArgs (PySem.W.kla_fn "<lambda>" q prs bod scp cl pm cv ctv) ⟨[], []⟩ = pure [])
    (gd : X.A.guards = some []) (hbod : ∀ (A : Around) (outer : List Env) (s : Shared) (H : Hp) (E : XK) (f c' : Addr), (A.deeper (lamEnv X scp s.heap.objs.size f c')).guards = some [] → Room k (A.deeper (lamEnv X scp s.heap.objs.size f c')) → PE (lamCx X A outer s H E scp f c') bod (t E))
    (hdb : (x == ("__debug__" : Str)) = false := by decide) (hd : (a == ("__debug__" : Str)) = false := by decide) (hcd : (a == ("__classdict__" : Str)) = false := by decide) :
    PE X (.Call (.Name x p) [.Lambda prs bod scp lpos] [] pos) (tLam3 T TT t) := by
  refine ⟨fun pins s σ H Q I hh => wpAny_Call_Name_kw (ld_glob I hg hm (PySem.W.callWith_K (h₀ := X.base) I.ok.mod.kin hk ?_ (by rfl) (by rfl)) hdb)⟩
  obtain ⟨tb, hh⟩ := hh
  show wpAny _ _ (spliced ((false, eval (.Lambda prs bod scp lpos) X.env) :: backTo pos (starEach [] X.env))) _ _ s
  refine Calls.spliced_cons (lam_make3 I TB hcode hin one tb nodef (L.has I.ok) fun f c1 pm1 ctv H1 s1 I1 e1 t1 atf nof frf isC => Calls.spliced_nil ⟨I1.kIn, ?_⟩)
  have run : codeAny (model X.prog X.w) X.A (.call (.ref g) ⟨[.ref f], []⟩) (CR C8.CX0 X.stack X.prog X.w H1 s1 Q C8.E0) s1 := run_ofS (N := Ng) (ps := [a]) (us := [.ref f]) (vs := [.ref f]) lk hcg Sg hr I1.env0 (hb s1 [.ref f] I1.kIn rfl) (.cons rfl .nil) rfl fun hr1 => by
    obtain ⟨t2, ht2, hq2⟩ := hG f c1 s1 H1 Q (fun E H2 Q2 => t E σ H2 Q2) (fun W pn xe E p1 p2 tk hW => act3 (i := 0) I1 L atf nof frf (nobind _ _ _ _ _) gd tk hW hr1 (fun A outer s H g2 hr2 => hbod A outer s H E f c1 g2 hr2) hNg hva hd hcd) isC (hh H1 e1 t1)
    exact ⟨t2, ht2.nox, hq2⟩
  refine wpAny_call (codeAny_mono run fun r s2 hq => ?_)
  match r, hq with
  | .error e, hq => exact (show False from hq).elim
  | .ok (.ret u), hq => exact I1.after hq
  | .ok .next, hq => exact False.elim hq
  | .ok .brk, hq => exact False.elim hq
  | .ok .cont, hq => exact False.elim hq
end
end T3
namespace T3
open PySem PySem.Spec PyProof.Rows L2
theorem fly_keeps {B : Heap} {l : List Env} {a : Addr} {Z : Obj → Prop} {h h' : Heap} (k : ∀ b o, h.get? b = some o → h'.get? b = some o) (f : HandSPX.FlyingZ B l a Z h) : HandSPX.FlyingZ B l a Z h' := by
  obtain ⟨f1, f2, f3, oe, vs, T, oT, ts, g1, g2, g3, g4, g5, g6, g7, g8, g9⟩ := f
  exact ⟨fun b o e => k b o (f1 b o e), f2, Heap.FunFrames.of_keeps (fun b o e _ => ⟨o, k b o e, rfl⟩) f3, oe, vs, T, oT, ts, k _ _ g1, g2, g3, g4, g5, g6, k _ _ g7, g8, g9⟩
/-- what the clause wishes of an exception of the body: it is of one of the classes, the suite goes on from there -/
noncomputable def wAs3 (K : PySem.W.Frag) (c1 c2 c3 : Value) (i : Nat) (ts : Addr → Value → Option Addr → TS) (D : Ends) : WX := fun cls d σ H =>
  PySem.W.exmAny K cls [c1, c2, c3] = some true ∧ ∀ a, H a = none → ts a cls d { nx := fun σ1 H1 => D.nx (σ1.set i none) H1, rt := D.rt, bk := fun σ1 H1 => D.bk (σ1.set i none) H1, ct := fun σ1 H1 => D.ct (σ1.set i none) H1 } (σ.set i (some (.ref a))) H
section
variable {X : Cx} {x1 x2 x3 n : Str} {c1 c2 c3 : Value} {i kk : Nat} {body suite : List Stmt} {b0 : Stmt} {q1 q2 q3 np pos hpos : Pos} {tb : WX → TS} {ts : Addr → Value → Option Addr → TS}
/-- a class's name, read within the test of a clause -/
theorem test_name {a : Addr} {pn : List (Addr × Obj)} {pins : List (Addr × Obj)} {σ : L2.St} {H : Hp} {s : Shared} {x : Str} {c : Value} {q : Pos} {Q : Value → Shared → Prop} {E : Value → Shared → Prop} (hn : Names X x c) (J : Inv (X.suite a pn) pins σ H s) (h : Q c s) :
    wpAny (model X.prog X.w) (X.A.mark (some (.ref a))) (eval (.Name x q) X.env) Q E s := by
  obtain ⟨g, nd, m | ⟨m, v, ne⟩⟩ := hn
  · exact ld_glob (X := X.suite a pn) J g m h nd
  · exact ld_blt (X := X.suite a pn) J g m v h ne nd
theorem ps_try_as3 (stk : X.stack = X.env :: X.outer) (fr : X.env.frame = some X.env.locals) (nd : X.N.Nodup) (at_i : X.N[i]? = some n) (loc : X.env.kindOf n = some .local) (n1 : Names X x1 c1) (n2 : Names X x2 c2) (n3 : Names X x3 c3)
    (hbody : ∀ (W : WX) (pn : List (Addr × Obj)) (xe : Value → Shared → Prop), Takes (X.tr pn xe) W → PassesOwn (model X.prog X.w) X.A X.env xe → PSs (X.tr pn xe) body (tb W))
    (hsuite : ∀ (a : Addr) (oe : Obj) (cls : Value) (d : Option Addr) (pn : List (Addr × Obj)), Zc cls d oe → (∃ vs, oe.data = .fields vs) → PSs (X.suite a ((a, oe) :: pn)) (b0 :: suite) (ts a cls d))
    (e1 : starEach [.Name x1 q1, .Name x2 q2, .Name x3 q3] X.env = [(false, eval (.Name x1 q1) X.env), (false, eval (.Name x2 q2) X.env), (false, eval (.Name x3 q3) X.env)] := by rfl) :
    PS X (.Try body [.ExceptHandler (some (.Tuple [.Name x1 q1, .Name x2 q2, .Name x3 q3] kk np)) (some n) (b0 :: suite) hpos] [] [] pos) (fun D σ H => tb (wAs3 X.K c1 c2 c3 i ts D) D σ H) := by
  refine ⟨fun pins s σ H D I h => ?_⟩
  have ok := I.ok
  have frames : X.A.frames = some (X.env :: X.outer) := ok.frames.trans (by rw [stk])
  refine wpAny_Try_except ?_
  refine wpAny_mono ((hbody (wAs3 X.K c1 c2 c3 i ts D) (X.pn ++ pins) (fun e sA => wpAny (model X.prog X.w) X.A (noteFrame e X.env) (fun _ sB => wpAny (model X.prog X.w) X.A (setFlight e none) (fun _ sC =>
    wpAny (model X.prog X.w) X.A (handleBy e X.env [.ExceptHandler (some (.Tuple [.Name x1 q1, .Name x2 q2, .Name x3 q3] kk np)) (some n) (b0 :: suite) hpos]) (SP X pins D) X.xe sC) X.xe sB) X.xe sA) (fun u sX xx => ?_) PassesOwn.looking).run [] s σ H D (I.toTry _) h)
    (fun f sE hsp => ?_) (fun e sE he => he)
  · obtain ⟨a, B, sI, pins1, σ1, H1, cls, d, rfl, J0, nb, up, sky, na, os, ag, hx, hgo⟩ := xx
    have J : Inv X pins σ1 H1 sI := J0.ofTry ok
    have sky1 : Sky B (X.env :: X.outer) a (Zc cls d) X.env.locals sX.heap := stk ▸ sky
    show wpAny (model X.prog X.w) X.A (noteFrame (.ref a) X.env) _ _ _
    refine Sky.land Zc.steady frames fr sky1 fun h3 fl3 up3 => ?_
    have J3 : Inv X pins σ1 H1 { sX with heap := h3 } := J.landed nb fl3.1 (up.trans up3) os ag
    obtain ⟨oe3, vs3, g3, z3, d3⟩ := fl3.there
    have nofr : a ∉ frs (X.env :: X.outer) := fun hm => by
      obtain ⟨_, o, e, nf⟩ := fl3.2.2.1.mem hm
      rw [g3] at e
      cases e
      exact nf _ d3
    have nL : a ≠ X.env.locals := fun z => nofr (List.mem_filterMap.mpr ⟨X.env, List.mem_cons_self, by rw [fr, z]⟩)
    have nF : a ∉ X.fs := fun hm => by
      obtain ⟨e, he, q⟩ := List.mem_filterMap.mp hm
      exact nofr (List.mem_filterMap.mpr ⟨e, List.mem_cons_of_mem _ he, q⟩)
    have S3 := J3.suite g3 d3 na nL nF
    refine wpAny_handleBy_cons (codeAny_handlers_test ?_) (by intro q; cases q)
    have LT : PySem.W.Looks (model X.prog X.w) h3 (typeOf (.ref a)) cls := fun A Q E s k q => wpAny_typeOf_ref (k _ _ g3) (by rw [z3.1]; exact q)
    refine PySem.wpAny_Tuple_spliced ?_
    rw [e1]
    show wpAny _ _ (spliced [(false, eval (.Name x1 q1) X.env), (false, eval (.Name x2 q2) X.env), (false, eval (.Name x3 q3) X.env)]) _ _ _
    refine Calls.spliced_cons (test_name n1 S3 (Calls.spliced_cons (test_name n2 S3 (Calls.spliced_cons (test_name n3 S3 (Calls.spliced_nil ⟨by show 3 ≤ sizeLine; decide, ?_⟩))))))
    have kt : ∀ b o, h3.get? b = some o → (h3.push { cls := .type "tuple", data := .seq [c1, c2, c3].toArray }).get? b = some o := fun b o e => Heap.get?_push_of_some _ e
    have LM := PySem.W.exm_tup3 (M := model X.prog X.w) (tp := h3.objs.size) (K := X.K) (h := h3.push { cls := .type "tuple", data := .seq [c1, c2, c3].toArray }) (fun b o e => kt b o (J3.kIn b o e)) (LT.keeps kt) (Heap.get?_push_size _ rfl) hx
    refine LM.here ?_
    refine codeAny_handlers_suite_as ?_
    have fl3' := fly_keeps kt fl3
    refine HandSPX.lands_againZ fl3' fun h4 fl4 up4 => ?_
    have upt : sX.heap.UpToSlots (h3.push { cls := .type "tuple", data := .seq [c1, c2, c3].toArray }) := up3.trans fun b o e _ => ⟨o.slots, kt b o e⟩
    have J4 : Inv X pins σ1 H1 { sX with heap := h4 } := J.landed nb fl4.1 ((up.trans upt).trans up4) os ag
    obtain ⟨oe4, vs4, g4, z4, d4⟩ := fl4.there
    have S4 := J4.suite g4 d4 na nL nF
    refine store_ok (X := X.suite a ((a, oe4) :: (X.pn ++ pins))) (v := .ref a) S4 nd at_i (.inl loc) rfl (fun s5 S5 => ?_) (.inr loc)
    refine wpAny_mono ((hsuite a oe4 cls d (X.pn ++ pins) z4 ⟨_, d4⟩).run [] s5 _ H1 _ S5 (hgo a na)) (fun f s6 hsp => ?_) (fun _ _ z => False.elim z)
    have leave : ∀ {σ6 : L2.St} {H6 : Hp} {Q : Shared → Prop}, Inv (X.suite a ((a, oe4) :: (X.pn ++ pins))) [] σ6 H6 s6 → (∀ s7, Inv X pins (σ6.set i none) H6 s7 → Q s7) → wpAny (model X.prog X.w) X.A (do bindName X.env n .none; unbindBehindTheSuite X.env n hpos) (fun _ s7 => Q s7) X.xe s6 :=
      fun S6 hq => gone_ok (S6.unsuite ok) nd at_i loc hq
    match f, hsp with
    | .ret u, hsp => exact (let ⟨v6, σ6, H6, S6, r6, q6⟩ := hsp; leave S6 fun s7 J7 => ⟨_, _, _, J7, r6, q6⟩)
    | .next, hsp => exact (let ⟨σ6, H6, S6, q6⟩ := hsp; leave S6 fun s7 J7 => ⟨_, _, J7, q6⟩)
    | .brk, hsp => exact (let ⟨σ6, H6, S6, q6⟩ := hsp; leave S6 fun s7 J7 => ⟨_, _, J7, q6⟩)
    | .cont, hsp => exact (let ⟨σ6, H6, S6, q6⟩ := hsp; leave S6 fun s7 J7 => ⟨_, _, J7, q6⟩)
  · match f, hsp with
    | .next, hsp => exact (let ⟨σ1, H1, J1, q⟩ := hsp; wpAny_execs_nil ⟨σ1, H1, J1.ofTry ok, q⟩)
    | .brk, hsp => exact (let ⟨σ1, H1, J1, q⟩ := hsp; ⟨σ1, H1, J1.ofTry ok, q⟩)
    | .cont, hsp => exact (let ⟨σ1, H1, J1, q⟩ := hsp; ⟨σ1, H1, J1.ofTry ok, q⟩)
    | .ret u, hsp => exact (let ⟨v, σ1, H1, J1, r, q⟩ := hsp; ⟨v, σ1, H1, J1.ofTry ok, r, q⟩)
end
end T3
namespace T3
open PySem PySem.Spec PyProof.Rows L2
section
variable {X : Cx} {cl : ClT} {W : WX}
theorem plain_bools : ∀ bs : List Bool, PyData.plainAll (bs.map PyData.bool) = true
  | [] => rfl
  | b :: r => by
    show (PyData.plain (.bool b) && PyData.plainAll (r.map PyData.bool)) = true
    rw [plain_bools r]
    rfl
theorem reads_bools {h : Heap} : ∀ {bs : List Bool} {us : List Value}, Vals (bs.map V.bl) us → ∃ as, ReadsAll h us (bs.map PyData.bool) as
  | [], _, .nil => ⟨_, .nil⟩
  | b :: r, u :: us, .cons e t => by
    have e : u = Value.bool b := e
    subst e
    obtain ⟨as, q⟩ := reads_bools t
    exact ⟨_, .cons (.bool b) q⟩
theorem depth_bools : ∀ bs : List Bool, PyData.depthAll (bs.map PyData.bool) = 0
  | [] => rfl
  | b :: r => by
    show max (PyData.depth (.bool b)) (PyData.depthAll (r.map PyData.bool)) = 0
    rw [depth_bools r]
    rfl
noncomputable def rLCntB (K : PySem.W.Frag) : V → List V → Hp → VK → Prop := fun x xs H Q => ∃ (a : Addr) (bs : List Bool) (b : Bool), x = .ref a ∧ xs = [.bl b] ∧ SqL K H a (bs.map V.bl) ∧ Q (.int (bs.countP (· == b) : Nat)) H
theorem mt_lcountB (hu : X.A.units + 65 < cLine) : MtR X "list.count" (rLCntB X.K) := by
  rintro pins s σ H x xs v us Q I rx rxs ⟨a, bs, b, rfl, rfl, hq, q⟩
  cases rx
  match rxs with
  | .cons (b := u) ry .nil =>
  have ry : u = Value.bool b := ry
  subst ry
  obtain ⟨its, rv, pl, hz⟩ := I.list hq
  obtain ⟨as, rd⟩ := reads_bools (h := s.heap) rv
  refine PySem.SeqAt.count_list_data (vs := its.toArray) (xs := bs.map PyData.bool) (d := .bool b) pl.isList rd (.bool b) (plain_bools bs) rfl (by rw [depth_bools]; simp; omega) ?_
  rw [List.countP_map]
  exact ⟨.int (bs.countP (· == b) : Nat), H, I.tok _, ⟨_, rfl⟩, q⟩
/-- the bools in a list -/
noncomputable def fLCnt (x : A) (xs : List A) (S : Store) : Res := match asL S x, xs with
  | some ds, [.val (.bl b)] => (match boolsOf ds with
    | some bs => .ok (.val (.int (bs.countP (· == b) : Nat))) S
    | none => .bad)
  | _, _ => .bad
theorem ok_lcnt : MtOk X.K cl (rLCntB X.K) fLCnt := by
  intro B H m S σ W v x vs xs Q o r rs h
  unfold fLCnt at h
  split at h
  · rename_i ds b hd
    split at h
    · rename_i bs hb
      obtain ⟨a, ys, rfl, q, rl⟩ := asL_ok o r hd
      obtain ⟨w, rfl, r1⟩ := one_arg rs
      cases r1
      exact ⟨a, bs, b, rfl, rfl, boolsOf_ok rl hb ▸ q, h.here o (.int _)⟩
    · exact h.elim
  · exact h.elim
theorem pm_lcount {o e : Expr} {c ce : CE} {apos cpos : Pos} (hu : X.A.units + 65 < cLine) (ho : PE X o (tM X.K cl W c)) (ha : PE X e (tM X.K cl W ce)) (hs1 : starEach [e] X.env = (false, eval e X.env) :: starEach [] X.env := by rfl)
    (hbase : attributeBase o "count" X.env (eval o X.env) = eval o X.env := by rfl) (hfew : ((backTo cpos (starEach [e] X.env)).all (fun x => !x.1) && (backToKw cpos (keywordEach [] X.env)).all (fun x => x.1.isSome)
      && decide ([e].length + ([] : List Keyword).length + (if ([] : List Keyword).isEmpty then 0 else 1) < 30)) = true := by rfl) (hline : (apos.endLine == cpos.line) = true := by rfl) (hplain : (backTo cpos (starEach [] X.env)).any (·.1) = false := by rfl) :
    PE X (.Call (.Attribute o "count" apos) [e] [] cpos) (tM X.K cl W (cMt tyL fLCnt c (cCons ce cNil))) :=
  PE.imp (pe_bm PySem.F.plainAttrs_list PySem.F.slot_list_count PySem.F.type_list_count (mt_lcountB hu) ho (pm_cons ha pm_nil hs1) hbase hfew hline hs1 hplain) fun _ _ _ h => tBM_ok ty_list ok_lcnt h
end
section
variable {S : Store} {ds : List D} {b : Bool}
@[simp] theorem lcnt_lst : fLCnt (.val (.lst ds)) [.val (.bl b)] S = (match boolsOf ds with | some bs => .ok (.val (.int (bs.countP (· == b) : Nat))) S | none => .bad) := rfl
end
end T3
namespace T3
open PySem PySem.Spec PyProof.Rows L2
section
variable {X : Cx} {cl : ClT} {W : WX}
abbrev siK (kvs : List (Str × Int)) : List (Key × V) := kvs.map fun kv => ((Sum.inr kv.1 : Key), V.int kv.2)
abbrev siP (kvs : List (Str × Int)) : PyData := .dict (kvs.map fun kv => (.str kv.1, .int kv.2))
theorem si_reads {h : Heap} {P : Program} {w : World} : ∀ {kvs : List (Str × Int)} {vs : List (Key × Value)} {es : List DictEntry}, KV (siK kvs) vs → Pairs (mixKind P w) es vs →
    ReadsAll h (es.map (·.key)) (kvs.map fun kv => .str kv.1) [] ∧ ReadsAll h (es.map (·.val)) (kvs.map fun kv => .int kv.2) []
  | [], _, _, .nil, .nil => ⟨.nil, .nil⟩
  | (k, i) :: r, _, [], h, p => by cases p; cases h
  | (k, i) :: r, _, e :: es, .cons ⟨h1, h2⟩ t, .cons p1 p2 q => by
    obtain ⟨a, b⟩ := si_reads t q
    rw [← h1] at p1
    obtain ⟨tk, hk⟩ : ∃ tk, e.key = .str k tk := by
      have p1 : Value.isStrOf k e.key = true := p1
      unfold Value.isStrOf at p1
      cases hx : e.key with
      | str x t =>
        rw [hx] at p1
        exact ⟨t, by rw [show x = k from by simpa using p1]⟩
      | _ => rw [hx] at p1; cases p1
    obtain ⟨ti, hi⟩ : ∃ ti, e.val = .int i ti := by
      obtain ⟨ti, h2⟩ := h2
      exact ⟨ti, by rw [p2]; exact h2⟩
    refine ⟨?_, ?_⟩
    · rw [List.map_cons, List.map_cons, hk]
      exact .cons (as := []) (.str k tk) a
    · rw [List.map_cons, List.map_cons, hi]
      exact .cons (as := []) (.int i ti) b
noncomputable def rReprS : List V → Hp → VK → Prop := fun vs H Q => ∃ (a : Addr) (kvs : List (Str × Int)), vs = [.ref a] ∧ H a = some (.dK (siK kvs)) ∧ (siP kvs).showable = true ∧ (siP kvs).depth ≤ 60 ∧ (siP kvs).shown.length ≤ sizeLine ∧ Q (.str (siP kvs).shown) H
theorem cr_reprS (g : X.A.guards = some []) (hu : X.A.units + 70 < cLine) : CallR X (.builtin "repr") rReprS := by
  intro pins s σ H xs us Q I r h
  obtain ⟨a, kvs, rfl, hd, hs, hdp, hz, q⟩ := h
  cases r with
  | @cons _ u _ _ r1 r2 =>
    cases r2
    cases r1
    obtain ⟨_, hsm, vs, kv, o, es, ep, e1, e2, e3, _, e5, _⟩ := dk_of I.hok hd
    obtain ⟨ra, rb⟩ := si_reads (h := s.heap) kv e5
    have rd : Reads s.heap (.ref a) (siP kvs) (a :: [] ++ []) := by
      refine .dict e1 e2.1 e3 ?_ ?_
      · rw [List.map_map]; exact ra
      · rw [List.map_map]; exact rb
    exact repr_of_reads' rd hs (fun _ z => by
      simp at z
      rw [← z] at hsm
      simp at hsm) g (by omega) (fun _ _ e => e) (fun h' t tk hk => ⟨.str _, H, I.kept (h' := h') (t' := tk) hk, ⟨_, rfl⟩, q⟩) hz
noncomputable def strsK : List Key → Option (List Str)
  | [] => some []
  | .inr s :: r => (strsK r).map (s :: ·)
  | _ => none
theorem strsK_ok : ∀ {ks : List Key} {ss : List Str}, strsK ks = some ss → ks = ss.map Sum.inr
  | [], _, h => by cases h; rfl
  | .inr s :: r, ss, h => by
    simp only [strsK, Option.map_eq_some_iff] at h
    obtain ⟨t, ht, rfl⟩ := h
    rw [strsK_ok ht]
    rfl
/-- repr, of a dict of texts to ints too -/
noncomputable def fReprD : List A → Store → Res
  | [.val (.dic ks ds)], S => (match strsK ks, intsOf ds with
    | some ss, some is => if ss.length == is.length && (siP (ss.zip is)).showable && decide ((siP (ss.zip is)).depth ≤ 60) && szOk (siP (ss.zip is)).shown.length then .ok (.val (.str (siP (ss.zip is)).shown)) S else .bad
    | _, _ => .bad)
  | xs, S => fRepr xs S
theorem zip_si : ∀ (ss : List Str) (is : List Int), (ss.map (Sum.inr : Str → Key)).zip (is.map V.int) = siK (ss.zip is)
  | [], _ => rfl
  | _ :: _, [] => rfl
  | s :: r, i :: t => congrArg (((Sum.inr s : Key), V.int i) :: ·) (zip_si r t)
theorem cr_reprD (g : X.A.guards = some []) (hu : X.A.units + 70 < cLine) : CallR X (.builtin "repr") (fun vs H Q => rRepr X.K vs H Q ∨ rReprS vs H Q) := CallR.or (cr_repr g hu) (cr_reprS g hu)
theorem ok_reprD : CaOk X.K cl (fun vs H Q => rRepr X.K vs H Q ∨ rReprS vs H Q) fReprD := by
  intro B H m S σ W vs xs Q o r h
  unfold fReprD at h
  split at h
  · rename_i ks ds S
    obtain ⟨v, rfl, r1⟩ := one_arg r
    split at h
    · rename_i ss is hk hi
      split at h
      · rename_i hz
        simp only [Bool.and_eq_true, decide_eq_true_eq] at hz
        cases r1 with
        | @dic a _ xs _ h1 n l r2 =>
          have e1 := strsK_ok hk
          have e2 := intsOf_ok r2 hi
          subst e1 e2
          rw [zip_si] at h1
          exact .inr ⟨a, ss.zip is, rfl, h1, hz.1.1.2, hz.1.2, szOk_line hz.2, h.here o (.str _)⟩
      · exact h.elim
    · exact h.elim
  · exact .inl (ok_repr o r h)
end
end T3
namespace T3
open PySem PySem.Spec PyProof.Rows L2 LamX L2H
/-- the reading within a suite: the held error's address, its dict's -/
noncomputable def clE (T : List (Addr × Str)) (a : Addr) (dd : Addr) : ClT := ⟨fun n => if n = 1000 then a else if n = 1001 then dd else 0, T⟩
structure InfoE (D dd : Addr) (p : Addr × Obj) : Prop where
  cls : p.2.cls = .ref D
  dict : p.2.dict = some dd
  data : ∃ vs, p.2.data = .fields vs
noncomputable def spE (K : PySem.W.Frag) (T : List (Addr × Str)) (D : Addr) (n : Nat) (f : Fn) : SpE := fun p vs H Q E => ∃ dd, InfoE D dd p ∧ spF K (clE T p.1 dd) n f vs H Q E
theorem fnE_M {P : Program} {w : World} {K : PySem.W.Frag} {mg : Str → Option Value} {base : Heap} {CX : CXT} {D : Addr} {x qual : Str} {st : Stmt} {f : Addr} {fd : FuncData} {N ps : List Str} {k : Nat} {b : CS} {T : List (Addr × Str)} (F : Fun K x qual st f fd) (S : FnScope N ps (defScope st))
    (body : ∀ (cdv : Value) (A : Around) (outer : List Env) (s : Shared) (H : Hp) (E : XK) (p : Addr × Obj) (dd : Addr), RoomH k (A.deeper (envOfC qual (defScope st) s.heap.objs.size f cdv)) → HeldE (cxH CX P w K mg base N qual (defScope st) f cdv A outer s H E p) p D dd →
      PSs (cxH CX P w K mg base N qual (defScope st) f cdv A outer s H E p) (defBody st) (tMS K (clE T p.1 dd) (fun c d _ H => E c d H) b)) :
    FnE P w K mg base CX (k + 1) f fd ps (spE K T D ps.length (runF N.length b)) := by
  obtain ⟨oc, od, kV, doc, pm, an, cdv, ct, osl, rfl, lk, hcd⟩ := F.ex
  refine fnE_of lk hcd S (fun p vs H Q E h => by obtain ⟨_, _, h⟩ := h; exact h.1) fun A outer s H vs Q E p hr hsp => ?_
  obtain ⟨dd, i, hl, B, m, S1, xs, o, r, fin⟩ := hsp
  have hpl : ps.length ≤ N.length := by have := congrArg List.length S.pre; rw [List.length_take] at this; omega
  refine ⟨_, body cdv A outer s H E p dd hr ⟨List.mem_singleton.mpr rfl, i.cls, i.dict, i.data⟩, ⟨B, m, S1, _, o, env_start r (by omega), ?_⟩⟩
  unfold runF at fin
  cases hb : b (xs.map some ++ List.replicate (N.length - xs.length) none) S1 with
  | bad => rw [hb] at fin; exact fin
  | bk _ _ => rw [hb] at fin; exact fin.elim
  | ct _ _ => rw [hb] at fin; exact fin.elim
  | nx ρ S' => rw [hb] at fin; exact fun σ H' m' s' o' e' => fin V.non H' m' s' o' .non
  | rt x S' => rw [hb] at fin; exact fun v H' m' s' o' r' => fin v H' m' s' o' r'
  | exc e ρ S' => rw [hb] at fin; exact fun c d σ H' m' s' o' e' x' => fin c d H' m' s' o' x'
theorem tML_mono {K : PySem.W.Frag} {cl : ClT} {W : WX} {c : CA} {σ : L2.St} {H : Hp} {Q Q' : List V → Hp → Prop} (h : tML K cl W c σ H Q) (k : ∀ vs H, Q vs H → Q' vs H) : tML K cl W c σ H Q' := by
  obtain ⟨B, m, S, ρ, o, e, fin⟩ := h
  refine ⟨B, m, S, ρ, o, e, ?_⟩
  cases hc : c ρ S with
  | bad => rw [hc] at fin; exact fin
  | exc x S1 => rw [hc] at fin; exact fin
  | ok x S1 => rw [hc] at fin; exact fun vs H1 m1 s1 o1 r1 => k _ _ (fin vs H1 m1 s1 o1 r1)
section
variable {X : Cx} {p : Addr × Obj} {D dd : Addr} {T : List (Addr × Str)}
theorem pm_callE {nm : Str} {n k : Nat} {f : Fn} {fa : Addr} {fd : FuncData} {ps : List Str} {e : Expr} {es : List Expr} {c : CA} {q pos : Pos} (F : FnE X.prog X.w X.K X.mg X.base C8.CX0 k fa fd ps (spE X.K T D n f)) (hE : HeldE X p D dd) (hr : RoomH k X.A) (hm : X.mg nm = some (.ref fa))
    (hkp : PySem.W.keepIn X.K (.ref fa) = true) (hb : Binds X.K fd ps []) (hg : Gl X nm) (ha : PA X (e :: es) (tML X.K (clE T p.1 dd) W0 c)) (hdb : (nm == ("__debug__" : Str)) = false := by decide)
    (he : starEach (e :: es) X.env = (false, eval e X.env) :: starEach es X.env := by rfl) (hpl : (backTo pos (starEach es X.env)).any (·.1) = false := by rfl) : PE X (.Call (.Name nm q) (e :: es) [] pos) (tM X.K (clE T p.1 dd) W0 (cCall n false f c)) :=
  PE.imp (pe_callE (E := WE W0) F hr hE.pn hg hm hkp hb (fun σ pins H s e s' I h => h.elim) ha hdb he hpl) fun σ H Q h => tML_mono (call_ok h) fun vs H1 q => ⟨dd, ⟨hE.cls, hE.dict, hE.data⟩, q⟩
end
mutual
noncomputable def nIns : D → Bool
  | .tup xs => nInsL xs
  | .lst xs => nInsL xs
  | .ro xs => nInsL xs
  | .wt xs => nInsL xs
  | .dic _ xs => nInsL xs
  | .ins _ _ _ => false
  | _ => true
noncomputable def nInsL : List D → Bool
  | [] => true
  | x :: r => nIns x && nInsL r
end
mutual
theorem Rep.re {K : PySem.W.Frag} {cl cl' : ClT} {N N' : Addr → Prop} {H : Hp} (hN : ∀ a, N' a → N a) : ∀ {v : V} {d : D}, Rep K cl N H v d → nIns d = true → Rep K cl' N' H v d
  | _, _, .non, _ => .non
  | _, _, .bl b, _ => .bl b
  | _, _, .int b, _ => .int b
  | _, _, .str b, _ => .str b
  | _, _, .tup t r, h => .tup (t.weak hN) (RepL.re hN r h)
  | _, _, .lst e n r, h => .lst e (fun z => n (hN _ z)) (RepL.re hN r h)
  | _, _, .ro t r, h => .ro (t.weak hN) (RepL.re hN r h)
  | _, _, .wt t n r, h => .wt t (fun z => n (hN _ z)) (RepL.re hN r h)
  | _, _, .dic e n l r, h => .dic e (fun z => n (hN _ z)) l (RepL.re hN r h)
  | _, _, .ins _ _, h => by cases h
theorem RepL.re {K : PySem.W.Frag} {cl cl' : ClT} {N N' : Addr → Prop} {H : Hp} (hN : ∀ a, N' a → N a) : ∀ {vs : List V} {ds : List D}, RepL K cl N H vs ds → nInsL ds = true → RepL K cl' N' H vs ds
  | _, _, .nil, _ => .nil
  | _, _, .cons (d := d) (ds := ds) t r, h => by
    have h' : nIns d = true ∧ nInsL ds = true := by simpa only [nInsL, Bool.and_eq_true] using h
    exact .cons (Rep.re hN t h'.1) (RepL.re hN r h'.2)
end
/-- the suite: word_now = _law_error(e); return ["error", word_now, repr(_law_field(e, word_now))] -/
noncomputable def bSuite (fE fF : Fn) : CS := sSeq (sAsg (tgName 3) (cCall 1 false fE (cCons (cV 2) cNil))) (sRet (cLst false (cCons (cS "error") (cCons (cV 3) (cCons (cB1 fReprD (cCons (cCall 2 false fF (cCons (cV 2) (cCons (cV 3) cNil))) cNil)) cNil)))))
/-- what is told of errors: class by class the two defs; tbl: the word and the text -/
structure ErrT where
  fE : Nat → Fn
  fF : Nat → Fn
  ok : Nat → Bool
  tbl : X0 → Option (Str × Str)
  run : ∀ e w r, tbl e = some (w, r) → ok e.c = true ∧ e.ns ≠ [] ∧ nInsL e.vs = true ∧ bSuite (fE e.c) (fF e.c) [none, none, some (.val (.ins 1000 e.ns e.vs)), none] [] = .rt (.ref 0) [.lst [.str "error", .str w, .str r]]
noncomputable def cTold (T : ErrT) (c : CE) : CE := fun ρ S => match c ρ S with
  | .ok (.val d) S1 => .ok (.val (.lst [.str "told", d])) S1
  | .ok (.ref _) _ => .bad
  | .exc e S1 => (match T.tbl e with
    | some (w, r) => .ok (.val (.lst [.str "error", .str w, .str r])) S1
    | none => .bad)
  | .bad => .bad
/-- what the suite is wished to do -/
noncomputable def tsE (K : PySem.W.Frag) (cl : ClT) (T : ErrT) : Addr → Value → Option Addr → TS := fun a cls d Dn σ H => (∃ σ1 : L2.St, σ = σ1.set 2 (some (.ref a))) ∧ H a = none ∧ Tabs cl.T H ∧ ∃ (e : X0) (dd : Addr) (xs : List V) (w r : Str), cls = .ref (cl e.c) ∧ d = some dd ∧
  H dd = some (.xd (e.ns.zip xs)) ∧ e.ns.length = xs.length ∧ RepL K cl (fun _ => False) H xs e.vs ∧ T.tbl e = some (w, r) ∧
  ∀ (p : Addr) (H1 : Hp), H p = none → (∀ b o, H b = some o → NT o → H1 b = some o) → (∀ b, H b ≠ none → H1 b ≠ none) → Tabs cl.T H1 → H1 p = some (.lst [.str "error", .str w, .str r]) → Dn.rt (.ref p) H1
/-- the reading of told, of the lambda's -/
noncomputable def TTold (K : PySem.W.Frag) (cl : ClT) (T : ErrT) (c1 c2 c3 : Value) : (XK → Hp → VK → Prop) → Hp → VK → Prop := fun tl H Q => ∃ Ech : XK,
  (∀ (cls : Value) (d : Option Addr) (H1 : Hp), Ech cls d H1 → PySem.W.exmAny K cls [c1, c2, c3] = some true ∧ ∀ (σ : L2.St) (a : Addr) (Dn : Ends), H1 a = none → Dn.rt = Q → tsE K cl T a cls d Dn (σ.set 2 (some (.ref a))) H1) ∧
  tl Ech H fun v H1 => ∀ p, H1 p = none → Q (.ref p) (upd H1 p (.lst [.str "told", v]))
end T3
namespace T3
open PySem PySem.Spec PyProof.Rows L2 LamX L2H
noncomputable def Nt : List Str := ["act", "back", "e", "word_now"]
noncomputable def sgT : Scope := { kind := .function, names := [("act", .local), ("back", .local), ("e", .local), ("word_now", .local), ("WrongValue", .globalImplicit), ("WrongName", .globalImplicit), ("NoAnswer", .globalImplicit), ("_law_error", .globalImplicit), ("repr", .globalImplicit), ("_law_field", .globalImplicit)], isGenerator := false, isCoroutine := false, more := [] }
theorem sc_told : FnScope Nt ["act"] sgT := ⟨rfl, rfl, rfl, by decide +kernel, rfl, by decide +kernel, by decide +kernel⟩
noncomputable def bgT (p0 p1 p2 p3 q1 q2 q3 np p4 p5 p6 p7 p8 p9 p10 p11 p12 p13 p14 p15 p16 p17 p18 p19 p20 p21 p22 p23 p24 : Pos) (kk j1 j2 : Nat) : List Stmt :=
  [.Try [.Assign [.Name "back" p0] (.Call (.Name "act" p1) [] [] p2) p3] [.ExceptHandler (some (.Tuple [.Name "WrongValue" q1, .Name "WrongName" q2, .Name "NoAnswer" q3] kk np)) (some "e")
    [.Assign [.Name "word_now" p4] (.Call (.Name "_law_error" p5) [.Name "e" p6] [] p7) p8, .Return (some (.List [.Constant (.str "error") j1 p9, .Name "word_now" p10, .Call (.Name "repr" p11) [.Call (.Name "_law_field" p12) [.Name "e" p13, .Name "word_now" p14] [] p15] [] p16] p17)) p18] p19] [] [] p20,
   .Return (some (.List [.Constant (.str "told") j2 p21, .Name "back" p22] p23)) p24]
/-- what is known of the classes and of the two defs that tell them -/
structure ErrF (P : Program) (w : World) (K : PySem.W.Frag) (mg : Str → Option Value) (base : Heap) (cl : ClT) (T : ErrT) (k : Nat) (c1 c2 c3 : Value) : Prop where
  n1 : mg "WrongValue" = some c1
  n2 : mg "WrongName" = some c2
  n3 : mg "NoAnswer" = some c3
  rp : mg "repr" = none
  cat : ∀ i, T.ok i = true → PySem.W.exmAny K (.ref (cl i)) [c1, c2, c3] = some true
  hE : ∃ (fa : Addr) (fd : FuncData) (ps : List Str), mg "_law_error" = some (.ref fa) ∧ PySem.W.keepIn K (.ref fa) = true ∧ Binds K fd ps [] ∧ ∀ i, T.ok i = true → FnE P w K mg base C8.CX0 k fa fd ps (spE K cl.T (cl i) 1 (T.fE i))
  hF : ∃ (fa : Addr) (fd : FuncData) (ps : List Str), mg "_law_field" = some (.ref fa) ∧ PySem.W.keepIn K (.ref fa) = true ∧ Binds K fd ps [] ∧ ∀ i, T.ok i = true → FnE P w K mg base C8.CX0 k fa fd ps (spE K cl.T (cl i) 2 (T.fF i))
section
variable {X : Cx} {cl : ClT} {T : ErrT} {k : Nat} {c1 c2 c3 : Value}
abbrev Zt (X : Cx) (x : Str) (g : Addr) (cdg : Value) (s : Shared) (H : Hp) : Cx := cxOf C8.CX0 X.prog X.w X.K X.mg X.base Nt x sgT g cdg X.A X.stack s H C8.E0
theorem suite_ok {x : Str} {g : Addr} {cdg : Value} {s0 : Shared} {H0 : Hp} {p4 p5 p6 p7 p8 p9 p10 p11 p12 p13 p14 p15 p16 p17 p18 : Pos} {j1 : Nat} (F : ErrF X.prog X.w X.K X.mg X.base cl T k c1 c2 c3) (hr : Room (k + 1) X.A) (gd : X.A.guards = some []) (a : Addr) (oe : Obj) (cls : Value) (d : Option Addr) (pn : List (Addr × Obj)) (hz : Zc cls d oe) (hv : ∃ vs, oe.data = .fields vs) :
    PSs ((Zt X x g cdg s0 H0).nox.suite a ((a, oe) :: pn)) [.Assign [.Name "word_now" p4] (.Call (.Name "_law_error" p5) [.Name "e" p6] [] p7) p8, .Return (some (.List [.Constant (.str "error") j1 p9, .Name "word_now" p10, .Call (.Name "repr" p11) [.Call (.Name "_law_field" p12) [.Name "e" p13, .Name "word_now" p14] [] p15] [] p16] p17)) p18]
      (tsE X.K cl T a cls d) := by
  refine ⟨fun pins s σ H D I hh => ?_⟩
  obtain ⟨⟨σ1, hσ⟩, na, tb, e, dd, xs, wd, r, rfl, rfl, hdd, hlen, rep, htbl, fin⟩ := hh
  obtain ⟨hok, _, hn, hrun⟩ := T.run e wd r htbl
  have hE : HeldE ((Zt X x g cdg s0 H0).nox.suite a ((a, oe) :: pn)) (a, oe) (cl e.c) dd := ⟨List.mem_cons_self, hz.1, hz.2, hv⟩
  obtain ⟨fa, fd, ps, m1, k1, b1, F1⟩ := F.hE
  obtain ⟨fa2, fd2, ps2, m2, k2, b2, F2⟩ := F.hF
  have hrH : RoomH k ((Zt X x g cdg s0 H0).nox.suite a ((a, oe) :: pn)).A := ⟨(hr.deeper (envOfC x sgT s0.heap.objs.size g cdg)).dp, (hr.deeper (envOfC x sgT s0.heap.objs.size g cdg)).un⟩
  have hu : ((Zt X x g cdg s0 H0).nox.suite a ((a, oe) :: pn)).A.units + 70 < cLine := by have := hrH.un; omega
  have gd' : ((Zt X x g cdg s0 H0).nox.suite a ((a, oe) :: pn)).A.guards = some [] := guards_deeper (env := envOfC x sgT s0.heap.objs.size g cdg) gd
  have st1 := pm_set (X := (Zt X x g cdg s0 H0).nox.suite a ((a, oe) :: pn)) (cl := clE cl.T a dd) (W := W0) (pos := p8) (pos' := p4) 3 sc_told.nd (pm_callE (p := (a, oe)) (q := p5) (pos := p7) (F1 e.c hok) hE hrH m1 k1 b1 rfl (pm_cons (pm_v (pos := p6) 2) pm_nil))
  have st2 := pm_ret (X := (Zt X x g cdg s0 H0).nox.suite a ((a, oe) :: pn)) (cl := clE cl.T a dd) (W := W0) (pos := p18) (pm_lst false (pos := p17) (pm_cons (pm_str (x := "error") (j := j1) (pos := p9)) (pm_cons (pm_v (pos := p10) 3) (pm_cons (pm_b (nm := "") (p := p11) (pos := p16) (cr_reprD gd' hu) ok_reprD F.rp (by rfl)
    (pm_cons (pm_callE (p := (a, oe)) (q := p12) (pos := p15) (F2 e.c hok) hE hrH m2 k2 b2 rfl (pm_cons (pm_v (pos := p13) 2) (pm_cons (pm_v (pos := p14) 3) pm_nil))) pm_nil)) pm_nil))))
  refine (pms_cons st1 (pms_one st2)).run pins s σ H D I ⟨fun _ => False, [], [], [none, none, some (.val (.ins 1000 e.ns e.vs)), none], ⟨fun _ z => z.elim, rfl, List.nodup_nil, fun i b o z => by simp at z, tb⟩, ⟨?_, fun i y hy => ?_⟩, ?_⟩
  · have hl := I.len
    show 4 = σ.length
    rw [hl]
    rfl
  · have hi : i = 2 := by
      have h4 := (List.getElem?_eq_some_iff.mp hy).1
      simp at h4
      match i, h4, hy with
      | 0, _, hy => simp at hy
      | 1, _, hy => simp at hy
      | 2, _, _ => rfl
      | 3, _, hy => simp at hy
    subst hi
    have hy : y = .val (.ins 1000 e.ns e.vs) := by simpa using hy.symm
    subst hy
    refine ⟨.ref a, ?_, .ins (.inr (.inl ⟨rfl, by decide, hdd, fun z => z.elim id (fun z => by simp at z), hlen⟩)) (RepL.re (fun b z => z.elim id (fun z => by simp at z)) rep hn)⟩
    have hl : σ.length = 4 := I.len
    rw [hσ] at hl ⊢
    rw [List.length_set] at hl
    exact List.getElem?_set_self (by omega)
  · have hrun : sSeq (sAsg (tgName 3) (cCall 1 false (T.fE e.c) (cCons (cV 2) cNil))) (sRet (cLst false (cCons (cS "error") (cCons (cV 3) (cCons (cB1 fReprD (cCons (cCall 2 false (T.fF e.c) (cCons (cV 2) (cCons (cV 3) cNil))) cNil)) cNil))))) [none, none, some (.val (.ins 1000 e.ns e.vs)), none] [] = .rt (.ref 0) [.lst [.str "error", .str wd, .str r]] := hrun
    rw [hrun]
    intro v H1 m1 st o1 r1
    obtain ⟨p, hp, rfl⟩ := r1
    obtain ⟨ys, hy, ry⟩ := o1.obj 0 p _ hp rfl
    have ey : ys = [.str "error", .str wd, .str r] := by
      match ys, ry with
      | [_, _, _], .cons a1 (.cons a2 (.cons a3 .nil)) => cases a1; cases a2; cases a3; rfl
    obtain ⟨q, hq, hqn⟩ := st.ext
    have hpq : p ∈ q := by
      have := List.mem_of_getElem? hp
      rw [hq] at this
      simpa using this
    exact fin p H1 (hqn p hpq) (fun b o hb nt => st.keep b o hb (by simp) nt) st.stay o1.tabs (by rw [hy, ey])
theorem told_gives3 {x q : Str} {g : Addr} {cdg : Value} {p0 p1 p2 p3 q1 q2 q3 np p4 p5 p6 p7 p8 p9 p10 p11 p12 p13 p14 p15 p16 p17 p18 p19 p20 p21 p22 p23 p24 : Pos} {kk j1 j2 : Nat} (F : ErrF X.prog X.w X.K X.mg X.base cl T k c1 c2 c3) (hr : Room (k + 1) X.A) (gd : X.A.guards = some []) :
    GivesTo X Nt x sgT g cdg (bgT p0 p1 p2 p3 q1 q2 q3 np p4 p5 p6 p7 p8 p9 p10 p11 p12 p13 p14 p15 p16 p17 p18 p19 p20 p21 p22 p23 p24 kk j1 j2) "act" q (TTold X.K cl T c1 c2 c3) := by
  intro f c' s H Q tl act hc hh
  obtain ⟨Ech, hE, htl⟩ := hh
  have tr := ps_try_as3 (X := (Zt X x g cdg s H).nox) (x1 := "WrongValue") (x2 := "WrongName") (x3 := "NoAnswer") (n := "e") (c1 := c1) (c2 := c2) (c3 := c3) (i := 2) (q1 := q1) (q2 := q2) (q3 := q3) (np := np) (kk := kk) (pos := p20) (hpos := p19)
    (body := [.Assign [.Name "back" p0] (.Call (.Name "act" p1) [] [] p2) p3])
    (tb := fun W D σ H => ∃ E1 : XK, (∀ cls d σ' H', E1 cls d H' → W cls d σ' H') ∧ σ[0]? = some (some (.ref f)) ∧ H c' = some (CodeO c' q) ∧ tl E1 H fun v H1 => D.nx (σ.set 1 (some v)) H1)
    rfl rfl sc_told.nd rfl rfl ⟨rfl, by decide, .inl F.n1⟩ ⟨rfl, by decide, .inl F.n2⟩ ⟨rfl, by decide, .inl F.n3⟩ (fun W pn xe tk _ => ?_) (fun a oe cls d pn hz hv => suite_ok (p4 := p4) (p5 := p5) (p6 := p6) (p7 := p7) (p8 := p8) (p9 := p9) (p10 := p10) (p11 := p11) (p12 := p12) (p13 := p13) (p14 := p14) (p15 := p15) (p16 := p16) (p17 := p17) (p18 := p18) (j1 := j1) F hr gd a oe cls d pn hz hv)
  · refine ⟨_, pss_cons tr (pss_one (ps_ret (pe_lst (pa_cons (pe_str (x := "told") (j := j2) (pos := p21)) (pa_cons (pe_var (X := (Zt X x g cdg s H).nox) (i := 1) (x := "back") (pos := p22) rfl (.inl rfl) (by decide) (by decide)) pa_nil))))), ?_⟩
    refine ⟨Ech, fun cls d σ' H' h => ?_, rfl, hc, ?_⟩
    · obtain ⟨h1, h2⟩ := hE cls d H' h
      exact ⟨h1, fun a na => h2 σ' a _ na rfl⟩
    · refine (congrArg (tl Ech H) (funext fun v => funext fun H1 => propext ⟨fun hq => ?_, fun hq => ?_⟩)).mp htl
      · exact ⟨v, rfl, (show 2 ≤ sizeLine by decide), hq⟩
      · obtain ⟨v', e, hq⟩ := hq
        cases e
        exact hq.2
  · refine ⟨fun pins s' σ H' D I h' => ?_⟩
    obtain ⟨E1, hW, h1, h2, h3⟩ := h'
    have hp := act W pn xe E1 p1 p2 tk hW
    have hs := pss_one (ps_set (i := 1) (x := "back") (pos := p3) (pos' := p0) sc_told.nd rfl (.inl rfl) hp)
    exact hs.run pins s' σ H' D I ⟨h1, h2, h3⟩
end
end T3
namespace T3
open PySem PySem.Spec PyProof.Rows L2 LamX L2H
section
variable {K : PySem.W.Frag} {cl : ClT} {B : Addr → Prop} {H H1 : Hp} {m : List Addr} {S : Store}
theorem Step.of3 (e : Ext3 H H1) : Step H m H1 m := ⟨⟨[], by simp, by simp⟩, fun a o h _ nt => e.1 a o h nt, e.2⟩
theorem Ok.of3 (o : Ok K cl B H m S) (e : Ext3 H H1) (t : Tabs cl.T H1) : Ok K cl B H1 m S := by
  refine ⟨fun a z => ⟨e.2 a (o.foreign a z).1, (o.foreign a z).2⟩, o.len, o.nd, fun i a x hi hx => ?_, t⟩
  have r := o.obj i a x hi hx
  refine r.mono ((Step.of3 e).kp fun a h => (o.foreign a h).2) ⟨[], by simp⟩ ?_
  obtain ⟨v, hv, nt, _⟩ := o.nt (List.mem_of_getElem? hi)
  rw [hv, e.1 a v hv nt]
end
/-- how _law_told stands -/
noncomputable def ToldS (st : Stmt) : Prop := ∃ (p0 p1 p2 p3 q1 q2 q3 np p4 p5 p6 p7 p8 p9 p10 p11 p12 p13 p14 p15 p16 p17 p18 p19 p20 p21 p22 p23 p24 : Pos) (kk j1 j2 : Nat),
  defBody st = bgT p0 p1 p2 p3 q1 q2 q3 np p4 p5 p6 p7 p8 p9 p10 p11 p12 p13 p14 p15 p16 p17 p18 p19 p20 p21 p22 p23 p24 kk j1 j2 ∧ defScope st = sgT
section
variable {X : Cx} {cl : ClT} {W : WX} {T : ErrT} {k : Nat} {c1 c2 c3 : Value}
theorem told_imp {cb : CE} (F : ErrF X.prog X.w X.K X.mg X.base cl T k c1 c2 c3) (σ : L2.St) (H : Hp) (Q : VK) (h : tM X.K cl W (cTold T cb) σ H Q) :
    tLam3 cl.T (TTold X.K cl T c1 c2 c3) (fun E => tM X.K cl (fun c d _ H => E c d H) cb) σ H Q := by
  obtain ⟨B, m, S, ρ, o, en, fin⟩ := h
  refine ⟨o.tabs, fun H1 e1 t1 => ?_⟩
  have s1 : Step H m H1 m := Step.of3 e1
  have o1 := o.of3 e1 t1
  have en1 := s1.env o en
  refine ⟨fun cls d H2 => ∃ (e : X0) (S2 : Store) (m2 : List Addr), cb ρ S = .exc e S2 ∧ Step H1 m H2 m2 ∧ Ok X.K cl B H2 m2 S2 ∧ ExcAt X.K cl (NN B m2) H2 cls d e, ?_, ?_⟩
  · rintro cls d H2 ⟨e, S2, m2, hc, s2, o2, x2⟩
    unfold cTold at fin
    rw [hc] at fin
    simp only at fin
    cases ht : T.tbl e with
    | none => rw [ht] at fin; exact fin.elim
    | some wr =>
    obtain ⟨wd, r⟩ := wr
    rw [ht] at fin
    obtain ⟨hok, hne, _, _⟩ := T.run e wd r ht
    obtain ⟨rfl, x3⟩ := x2
    refine ⟨F.cat _ hok, fun σ2 a Dn na hD => ?_⟩
    rcases x3 with ⟨z, _⟩ | ⟨da, xs, rfl, e2, n, l, rr⟩
    · exact absurd z hne
    · refine ⟨⟨σ2, rfl⟩, na, o2.tabs, e, da, xs, wd, r, rfl, rfl, e2, l, rr.weak (fun b z => z.elim), ht, fun p H3 hp hk hs htb hp3 => ?_⟩
      rw [hD]
      have x3' : Ext3 H2 H3 := ⟨fun b o hb nt => hk b o hb nt, hs⟩
      refine fin (.ref p) H3 m2 ((s1.trans s2).trans (Step.of3 x3')) (o2.of3 x3' htb) ?_
      exact .lst hp3 (o2.fresh hp) (.cons (.str _) (.cons (.str _) (.cons (.str _) .nil)))
  · refine ⟨B, m, S, ρ, o1, en1, ?_⟩
    unfold cTold at fin
    cases hc : cb ρ S with
    | bad => rw [hc] at fin; exact fin.elim
    | exc e S2 => exact fun c d H2 m2 s2 o2 x2 => ⟨e, S2, m2, rfl, s2, o2, x2⟩
    | ok x S2 =>
      rw [hc] at fin
      cases x with
      | ref i => exact fin.elim
      | val d =>
        intro v H2 m2 s2 o2 r2 p hp
        refine fin (.ref p) _ m2 ((s1.trans s2).trans (Step.new hp)) (o2.new hp) ?_
        exact .lst upd_same (o2.fresh hp) (.cons (.str _) (.cons (Rep.mono (Kp.new hp) r2) .nil))
/-- _law_told(lambda: bod) -/
theorem pm_told {st : Stmt} {co Pt : Addr} {prs : Arguments} {bod : Expr} {scp : Scope} {p lpos pos : Pos} {cb : CE} (D : At X.K X.mg "_law_told" st) (Z : ToldS st)
    (hbi : ∀ (kV doc pm : Value) (an : Option Addr) (cdv ct u : Value), bindArgs (PySem.W.fnOf "_law_told" "_law_told" (defArgs st) (defBody st) (defScope st) .none kV doc pm an cdv ct) ⟨[u], []⟩ = pure [(("act" : Str), u)])
    (F : ErrF X.prog X.w X.K X.mg X.base cl T k c1 c2 c3) (hg : Gl X "_law_told") (TB : TabB X.base X.mg co Pt) (hcode : X.env.code = .ref co) (hT : cl.T = [(Pt, X.env.qual ++ "<lambda>")]) {k2 : Nat} (hr : Room (k2 + 2) X.A) (hk : k ≤ k2 := by decide) (gd : X.A.guards = some [])
    (L : LamS X.env.scope scp) (nodef : defaultsOf prs X.env = ([], [])) (nobind : ∀ (q : Str) (cl : List (Str × Addr)) (pm cv ctv : Value), bindArgs (PySem.W.kla_fn "<lambda>" q prs bod scp cl pm cv ctv) ⟨[], []⟩ = pure [])
    (hbod : ∀ (A : Around) (outer : List Env) (s : Shared) (H : Hp) (E : XK) (f c' : Addr), (A.deeper (lamEnv X scp s.heap.objs.size f c')).guards = some [] → Room k2 (A.deeper (lamEnv X scp s.heap.objs.size f c')) →
      Takes (lamCx X A outer s H E scp f c') (fun c d _ H => E c d H) → PE (lamCx X A outer s H E scp f c') bod (tM X.K cl (fun c d _ H => E c d H) cb)) :
    PE X (.Call (.Name "_law_told" p) [.Lambda prs bod scp lpos] [] pos) (tM X.K cl W (cTold T cb)) := by
  obtain ⟨fa, fd, hm, G⟩ := D
  have kp := G.kp
  obtain ⟨oc, od, kV, doc, pm, an, cdv, ct, osl, rfl, lk, hcd⟩ := G.ex
  obtain ⟨p0, p1, p2, p3, q1, q2, q3, np, p4, p5, p6, p7, p8, p9, p10, p11, p12, p13, p14, p15, p16, p17, p18, p19, p20, p21, p22, p23, p24, kk, j1, j2, hB, hS⟩ := Z
  have hb : L2.Binds X.K (PySem.W.fnOf "_law_told" "_law_told" (defArgs st) (defBody st) (defScope st) .none kV doc pm an cdv ct) ["act"] [] := G.binds fun kV doc pm an cdv ct us hl => match us, hl with | [u], _ => hbi kV doc pm an cdv ct u
  rw [hB, hS] at lk hb
  have hr' : Room (k + 1) X.A := hr.mono (by omega)
  exact PE.imp (pe_lam3 (T := cl.T) (TT := TTold X.K cl T c1 c2 c3) (t := fun E => tM X.K cl (fun c d _ H => E c d H) cb) (a := "act") (Ng := Nt) hg hm kp lk hcd hb sc_told rfl (.inl rfl)
    (told_gives3 F hr' gd) TB hcode (by rw [hT]; exact List.mem_singleton.mpr rfl) (fun q hq _ => by rw [hT] at hq; rw [List.mem_singleton.mp hq]) hr L nodef nobind gd
    (fun A outer s H E f c' g1 r1 => hbod A outer s H E f c' g1 r1 (takes_of rfl rfl rfl rfl))) fun σ H Q h => told_imp F σ H Q h
end
end T3
namespace T3
open PySem PySem.Spec PyProof.Rows L2 LamX L2H
def xNames : List Str := ["InvalidText", "InvalidNumber", "InvalidTable", "InvalidWord", "InvalidArguments", "InvalidTables", "InvalidOrder", "InvalidLot", "InvalidSheet", "InvalidName", "InvalidWish", "NotABox", "InvalidRows", "InvalidSteps", "InvalidTold", "InvalidExchanges", "InvalidWishes", "UnknownName", "InUse", "TooMany", "Broken", "NothingToUndo", "WrongValue", "WrongName", "NoAnswer"]
def xNm (j : Nat) : Str := xNames.getD j ""
/-- is class i one of class j's -/
noncomputable def xIs (i j : Nat) : Bool := j == i || (j == 22 && decide (i < 17)) || (j == 23 && decide (17 ≤ i) && decide (i < 19)) || (j == 24 && decide (19 ≤ i) && decide (i < 22))
noncomputable def xA (K : PySem.W.Frag) (j : Nat) : Addr := match PySem.W.nsIn K mainGlobals (xNm j) with
  | some (some (.ref a)) => a
  | _ => 0
structure ErrG (K : PySem.W.Frag) (mg : Str → Option Value) (f : Nat → Addr) (is : List Nat) : Prop where
  nm : ∀ j, j < 25 → mg (xNm j) = some (.ref (f j))
  ki : ∀ i ∈ is, ∀ j, j < 25 → PySem.W.kitOne K (.ref (f i)) (.ref (f j)) = some (xIs i j)
  k1 : ∀ i ∈ is, PySem.W.kitOne K (.ref (f i)) (.type "ValueError") = some (xIs i 22)
  k2 : ∀ i ∈ is, PySem.W.kitOne K (.ref (f i)) (.type "LookupError") = some (xIs i 23)
  k3 : ∀ i ∈ is, PySem.W.kitOne K (.ref (f i)) (.type "ArithmeticError") = some (xIs i 24)
  ce : ∀ i ∈ is, ClsE K (f i)
  ex : ∀ i ∈ is, PySem.W.exmAny K (.ref (f i)) [.ref (f 22), .ref (f 23), .ref (f 24)] = some true
  n1 : ∀ i ∈ is, PySem.W.findIn K (.ref (f i)) "given" = some none
  n2 : ∀ i ∈ is, PySem.W.findIn K (.ref (f i)) "index" = some none
  n3 : ∀ i ∈ is, PySem.W.findIn K (.ref (f i)) "shown" = some none
noncomputable def errB1 (K : PySem.W.Frag) : Bool := (List.range 25).all fun j => decide (PySem.W.nsIn K mainGlobals (xNm j) = some (some (.ref (xA K j))))
noncomputable def errB2 (K : PySem.W.Frag) (i : Nat) : Bool := (List.range 25).all fun j => decide (PySem.W.kitOne K (.ref (xA K i)) (.ref (xA K j)) = some (xIs i j))
noncomputable def errB3 (K : PySem.W.Frag) (C : Addr) (i : Nat) : Bool :=
  decide (PySem.W.kitOne K (.ref C) (.type "ValueError") = some (xIs i 22)) && (decide (PySem.W.kitOne K (.ref C) (.type "LookupError") = some (xIs i 23)) && (decide (PySem.W.kitOne K (.ref C) (.type "ArithmeticError") = some (xIs i 24)) &&
  (decide (PySem.W.exmAny K (.ref C) [.ref (xA K 22), .ref (xA K 23), .ref (xA K 24)] = some true) && (decide (PySem.W.findIn K (.ref C) "given" = some none) && (decide (PySem.W.findIn K (.ref C) "index" = some none) && decide (PySem.W.findIn K (.ref C) "shown" = some none))))))
noncomputable def errB4 (K : PySem.W.Frag) (C : Addr) : Bool := xfB K C && ((PySem.W.clsIn K C).isSome && (decide (PySem.W.findIn K (.ref C) "__class__" = some (some (.builtin "object.__class__"))) &&
  (decide (PySem.W.specialIn K (.builtin "object.__class__") "__get__" = some (some (.builtin "getset_descriptor.__get__"))) && (decide (PySem.W.takesIn K (.builtin "object.__class__") = some true) && decide (PySem.W.mroIn K C (.type "object") = some true)))))
theorem errG_of {K : PySem.W.Frag} {h : Heap} {mg : Str → Option Value} {is : List Nat} (X : K.In h) (G : h.Ns mainGlobals mg) (h1 : errB1 K = true) (h2 : ∀ i ∈ is, errB2 K i = true) (h3 : ∀ i ∈ is, errB3 K (xA K i) i = true) (h4 : ∀ i ∈ is, errB4 K (xA K i) = true) : ErrG K mg (xA K) is := by
  have hb3 : ∀ i ∈ is, _ := fun i hi => by
    have z := h3 i hi
    unfold errB3 at z
    simp only [Bool.and_eq_true, decide_eq_true_eq] at z
    exact z
  refine ⟨fun j hj => ?_, fun i hi j hj => ?_, fun i hi => (hb3 i hi).1, fun i hi => (hb3 i hi).2.1, fun i hi => (hb3 i hi).2.2.1, fun i hi => ?_, fun i hi => (hb3 i hi).2.2.2.1, fun i hi => (hb3 i hi).2.2.2.2.1, fun i hi => (hb3 i hi).2.2.2.2.2.1, fun i hi => (hb3 i hi).2.2.2.2.2.2⟩
  · exact PySem.W.mg_of X G (of_decide_eq_true (List.all_eq_true.mp h1 j (List.mem_range.mpr hj)))
  · exact of_decide_eq_true (List.all_eq_true.mp (h2 i hi) j (List.mem_range.mpr hj))
  · have z := h4 i hi
    unfold errB4 at z
    simp only [Bool.and_eq_true, decide_eq_true_eq] at z
    exact ⟨xfB_ok z.1, z.2.1, z.2.2.1, z.2.2.2.1, z.2.2.2.2.1, z.2.2.2.2.2⟩
noncomputable def errBB (K : PySem.W.Frag) (is : List Nat) : Bool := errB1 K && is.all fun i => errB2 K i && (errB3 K (xA K i) i && errB4 K (xA K i))
theorem errG_all {K : PySem.W.Frag} {h : Heap} {mg : Str → Option Value} {is : List Nat} (X : K.In h) (G : h.Ns mainGlobals mg) (b : errBB K is = true) : ErrG K mg (xA K) is := by
  unfold errBB at b
  obtain ⟨b1, b2⟩ := Bool.and_eq_true_iff.mp b
  have b3 : ∀ i ∈ is, _ := fun i hi => List.all_eq_true.mp b2 i hi
  simp only [Bool.and_eq_true] at b3
  exact errG_of X G b1 (fun i hi => (b3 i hi).1) (fun i hi => (b3 i hi).2.1) fun i hi => (b3 i hi).2.2
theorem tab_mk {K : PySem.W.Frag} {h : Heap} (X : K.In h) {x : Str} {f co Pt : Addr} {oc o2 : Value} {od od2 : Option Addr} {fd : FuncData} {sl sl2 : Array (Option Value)} {vs : Array Value} (n : PySem.W.nsIn K mainGlobals x = some (some (.ref f))) (l : K.lookup f = some ⟨oc, od, .func fd, sl⟩)
    (c : fd.code = .ref co) (lc : K.lookup co = some ⟨o2, od2, .fields vs, sl2⟩) (v : vs[11]? = some (.ref Pt)) : PySem.W.tabIn K x = some (co, Pt) := by
  unfold PySem.W.tabIn
  simp only [n, l, c, lc, v]
theorem tab_go {C : Prop} {K : PySem.W.Frag} {h : Heap} (X : K.In h) {x : Str} {f co Pt : Addr} {oc o2 : Value} {od od2 : Option Addr} {fd : FuncData} {sl sl2 : Array (Option Value)} {vs : Array Value} (n : PySem.W.nsIn K mainGlobals x = some (some (.ref f))) (l : K.lookup f = some ⟨oc, od, .func fd, sl⟩)
    (c : fd.code = .ref co) (lc : K.lookup co = some ⟨o2, od2, .fields vs, sl2⟩) (v : vs[11]? = some (.ref Pt)) (go : PySem.W.tabIn K x = some (co, Pt) → C) : C := go (tab_mk X n l c lc v)
theorem base_V : XI.BaseX "ValueError" "ValueError.__new__" "ValueError.__init__" [.type "ValueError", .type "Exception", .type "BaseException", .type "object"] := ⟨PySem.F.excBase_ValueError, PySem.W.kxs_ValueError, PySem.F.store_ValueError⟩
/-- raised with one field -/
noncomputable def RaisX (prog : Program) (K : PySem.W.Frag) (mg : Str → Option Value) (nm f : Str) : Prop := ∃ (C fI : Addr) (B newId initId : String) (bmB : List Value), XI.XTxt prog K mg nm f C fI B newId initId bmB
noncomputable def xB (K : PySem.W.Frag) (C fI : Addr) (f : Str) (B newId initId : String) (bmB : List Value) : Bool :=
  PySem.W.excInitIn K C bmB newId && (PySem.W.excOver K C bmB && (decide (PySem.W.findIn K (.ref C) "__setattr__" = some (some (.builtin "object.__setattr__"))) && (decide (PySem.W.findIn K (.ref C) f = some none) && (PySem.W.hasDictIn K C &&
  (decide (PySem.W.findIn K (.ref C) "__init__" = some (some (.ref fI))) && (PySem.W.isFn K (.ref fI) && (PySem.W.keepIn K (.ref C) && (decide (PySem.W.subIn K (.ref C) (.type "BaseException") = some true) && (decide (PySem.W.typeIn K (.ref C) = some (.type "type")) &&
  (decide (PySem.W.subIn K (.ref C) (.type B) = some true) && (decide (PySem.W.mroIn K C (.ref C) = some true) && (decide (PySem.W.ks_superIn K C C "__init__" = some (some (.builtin initId))) && (decide (PySem.W.nsIn K mainGlobals "super" = some none) && decide (PySem.W.nsIn K cStatics "thirdparty.any" = some none))))))))))))))
theorem raisX_mk {prog : Program} {K : PySem.W.Frag} {h : Heap} {mg : Str → Option Value} {nm f : Str} {C fI : Addr} {B newId initId : String} {bmB : List Value} {oc dV kV doc pm ct : Value} {od an : Option Addr} {cda cc : Addr} {osl : Array (Option Value)} {qual : Str} {p1 p2 p0 a1 a2 a3 a4 q1 q2 q3 q4 : Pos}
    {ccl : Value} {cdd : Option Addr} {vs : Array Value} {ccs : Array (Option Value)} {file : Str} {tf : Tok} {cl : Value} {cld : Option Addr} {csl : Array (Option Value)}
    (X : K.In h) (G : h.Ns mainGlobals mg) (gC : PySem.W.nsIn K mainGlobals nm = some (some (.ref C))) (iC : PySem.W.findIn K (.ref C) "__init__" = some (some (.ref fI)))
    (l : K.lookup fI = some ⟨oc, od, .func (PySem.W.ksFn "__init__" qual (XI.ag f p1 p2) (XI.bd f p0 a1 a2 a3 a4 q1 q2 q3 q4) (XI.sc f) dV kV doc pm an (.ref cda) ct cc), osl⟩) (lc : K.lookup cda = some ⟨ccl, cdd, .fields vs, ccs⟩) (ll : K.lookup cc = some ⟨cl, cld, .cell (some (.ref C)), csl⟩)
    (cd : PySem.W.codeIn K (.ref cda) qual = true) (d0 : dV = .none) (ln : (a2.endLine == a3.line) = true) (vf : vs[2]? = some (.str file tf)) (hf : ((prog.main.file : Str) == file) = true) (top : (prog.main.scope.names.lookup ("super" : Str)).isSome = false) (base : XI.BaseX B newId initId bmB) (b : xB K C fI f B newId initId bmB = true) : RaisX prog K mg nm f := by
  unfold xB at b
  simp only [Bool.and_eq_true, decide_eq_true_eq] at b
  obtain ⟨b1, b2, b3, b4, b5, b6, b7, b8, b9, b10, b11, b12, b13, b14, b15⟩ := b
  exact ⟨C, fI, B, newId, initId, bmB, PySem.W.mg_of X G gC, base, b1, b2, b3, b4, b5, b6, b7, b8, b9, b10, b11, b12, b13, b14, b15, top, oc, od, dV, kV, doc, pm, an, cda, ct, cc, osl, qual, p1, p2, p0, a1, a2, a3, a4, q1, q2, q3, q4, l, d0, ln, cd, ⟨ccl, cdd, vs, ccs, file, tf, lc, vf, hf⟩, cl, cld, csl, ll⟩
section
variable {X : Cx} {cl : ClT} {W : WX} {is : List Nat}
/-- raise C(e), C the i-th class -/
theorem pm_raiseE (i : Nat) {f : Str} {a : Expr} {e : CE} {p pos pos2 : Pos} {k : Nat} (E : ErrG X.K X.mg cl.f is) (hi : i < 25) (R : RaisX X.prog X.K X.mg (xNm i) f) (hf : f = "given" ∨ f = "index") (hr : Room k X.A) (tk : Takes X W) (noS : X.mg "super" = none) (ha : PE X a (tM X.K cl W e)) (hc : X.calm = true := by rfl) (hg : Gl X (xNm i) := by rfl)
    (he : starEach (a :: []) X.env = (false, eval a X.env) :: starEach [] X.env := by rfl) (hpl : (backTo pos (starEach [] X.env)).any (·.1) = false := by rfl) (hdb : (xNm i == ("__debug__" : Str)) = false := by decide) :
    PS X (.Raise (some (.Call (.Name (xNm i) p) [a] [] pos)) none pos2) (tMS X.K cl W (sRaiseX i f e)) := by
  obtain ⟨C, fI, B, n1, n2, bm, T⟩ := R
  have e1 := T.gC.symm.trans (E.nm i hi)
  cases e1
  exact pm_raiseX i hc tk hf T hr noS ha hg he hpl hdb
theorem pm_isXC {i : Nat} (j : Nat) {x : Str} {pa : Addr × Obj} {dd : Addr} {f : Nat → Addr} {e : Expr} {c : CE} {p1 q pos : Pos} (hE : HeldE X pa (f i) dd) (G : ErrG X.K X.mg f is) (hi : i ∈ is) (hj : j < 25) (hx : x = xNm j) (h0 : cl 1000 = pa.1) (h1 : cl 1001 = dd) (he : PE X e (tM X.K cl W c)) (hm : X.mg "isinstance" = none)
    (hgx : Gl X x := by unfold Gl; kernel_rfl) (hdb : (x == ("__debug__" : Str)) = false := by decide) (hg : Gl X "isinstance" := by unfold Gl; kernel_rfl) (hs : starEach [e, .Name x q] X.env = (false, eval e X.env) :: starEach [.Name x q] X.env := by rfl) (hs2 : starEach [.Name x q] X.env = (false, eval (.Name x q) X.env) :: starEach [] X.env := by rfl)
    (hpl : (backTo pos (starEach [.Name x q] X.env)).any (·.1) = false := by rfl) : PE X (.Call (.Name "isinstance" p1) [e, .Name x q] [] pos) (tM X.K cl W (cIsX c (xIs i j))) :=
  pm_isX (t := .ref (f j)) (cv := .ref (f j)) hE (G.ce i hi) h0 h1 he (pe_glob hgx (by rw [hx]; exact G.nm j hj) rfl hdb) (fun u h => h) (G.ki i hi j hj) hm hg hs hs2 hpl
theorem pm_isXB {i : Nat} (j : Nat) {T : String} {x : Str} {pa : Addr × Obj} {dd D : Addr} {e : Expr} {c : CE} {p1 q pos : Pos} (hE : HeldE X pa D dd) (C : ClsE X.K D) (h0 : cl 1000 = pa.1) (h1 : cl 1001 = dd) (he : PE X e (tM X.K cl W c)) (hmx : X.mg x = none) (hv : bootBuiltins x = some (.type T)) (hk : PySem.W.kitOne X.K (.ref D) (.type T) = some (xIs i j)) (hm : X.mg "isinstance" = none)
    (hgx : Gl X x := by unfold Gl; kernel_rfl) (hn : x ≠ "__name__" := by decide) (hdb : (x == ("__debug__" : Str)) = false := by decide) (hg : Gl X "isinstance" := by unfold Gl; kernel_rfl) (hs : starEach [e, .Name x q] X.env = (false, eval e X.env) :: starEach [.Name x q] X.env := by rfl) (hs2 : starEach [.Name x q] X.env = (false, eval (.Name x q) X.env) :: starEach [] X.env := by rfl)
    (hpl : (backTo pos (starEach [.Name x q] X.env)).any (·.1) = false := by rfl) : PE X (.Call (.Name "isinstance" p1) [e, .Name x q] [] pos) (tM X.K cl W (cIsX c (xIs i j))) :=
  pm_isX (t := .ty T) (cv := .type T) hE C h0 h1 he (pe_bltn hgx hmx hv rfl hn hdb) (fun u h => h) hk hm hg hs hs2 hpl
theorem hu64H {k : Nat} {A : Around} (r : RoomH k A) : A.units + 64 < cLine := by have := r.un; omega
theorem hu65H {k : Nat} {A : Around} (r : RoomH k A) : A.units + 65 < cLine := by have := r.un; omega
/-- the errors told, from the two defs -/
noncomputable def mkErr (fE : Nat → Fn) (fF : Fn) (is : List Nat) : ErrT where
  fE := fE
  fF := fun _ => fF
  ok := fun i => is.contains i
  tbl := fun e => if is.contains e.c && !e.ns.isEmpty && nInsL e.vs then (match bSuite (fE e.c) fF [none, none, some (.val (.ins 1000 e.ns e.vs)), none] [] with
    | .rt (.ref 0) [.lst [.str a, .str w, .str r]] => if a == "error" then some (w, r) else none
    | _ => none) else none
  run := by
    intro e w r h
    split at h
    · rename_i hc
      simp only [Bool.and_eq_true, Bool.not_eq_true', List.isEmpty_eq_false_iff] at hc
      split at h
      · rename_i a w' r' hb
        split at h
        · rename_i ha
          cases h
          rw [beq_iff_eq.mp ha] at hb
          exact ⟨hc.1.1, hc.1.2, hc.2, hb⟩
        · cases h
      · cases h
    · cases h
end
end T3
namespace T3
open PySem PySem.Spec PyProof.Rows L2 LamX L2H
section
variable {P : Program} {w : World} {K : PySem.W.Frag} {mg : Str → Option Value} {base : Heap} {cl : ClT}
theorem fnDT {nm : Str} {st : Stmt} {N ps : List Str} {k : Nat} {b : CS} {co : Addr} (hco : ∀ fa fd, Fun K nm nm st fa fd → mg nm = some (.ref fa) → fd.code = .ref co) (S : FnScope N ps (defScope st))
    (body : ∀ (fa : Addr) (A : Around) (outer : List Env) (s : Shared) (H : Hp) (E : XK),
      (A.deeper (envOfC nm (defScope st) s.heap.objs.size fa (.ref co))).guards = some [] → Room k (A.deeper (envOfC nm (defScope st) s.heap.objs.size fa (.ref co))) →
      Takes (cxOf (L2.CX P w) P w K mg base N nm (defScope st) fa (.ref co) A outer s H E) (fun c d _ H => E c d H) →
      PSs (cxOf (L2.CX P w) P w K mg base N nm (defScope st) fa (.ref co) A outer s H E) (defBody st) (tMS K cl (fun c d _ H => E c d H) b))
    (fa : Addr) (fd : FuncData) (hm : mg nm = some (.ref fa)) (F : Fun K nm nm st fa fd) : FnG P w K mg base (k + 1) fa fd ps (spF K cl ps.length (runF N.length b)) := by
  have h1 := hco fa fd F hm
  obtain ⟨oc, od, kV, doc, pm, an, cdv, ct, osl, rfl, lk, hcd⟩ := F.ex
  obtain rfl : cdv = .ref co := h1
  have hpl : ps.length ≤ N.length := by have := congrArg List.length S.pre; rw [List.length_take] at this; omega
  constructor
  · exact fun vs H Q E h => h.1
  intro A outer s H args us vs Q E g room e0 hb rv hsp
  have old : ∀ b o, base.get? b = some o → s.heap.get? b = some o := fun b o q => (e0.bs b o q).1
  have kin := e0.mod.kin.keeps old
  refine codeAny_call_function room.depth (kin _ _ lk) rfl S.co S.gen rfl (PySem.W.codeRec_of kin hcd) (hb _ _ _ _ ?_)
  refine wpAny_newFunctionEnv_cells S.kind (binds_kind S _ us) fun env he s1 z => ?_
  cases he
  refine ⟨(e0.mod.nolimit.keeps old).keeps z.toInCall.keep, codeAny_func ?_⟩
  obtain ⟨hl, B, m, S1, xs, o, r, fin⟩ := hsp
  have hq : tMS K cl (fun c d _ H => E c d H) b { nx := fun _ H' => Q .non H', rt := Q } (start N vs) H := by
    refine ⟨B, m, S1, _, o, env_start r (by omega), ?_⟩
    unfold runF at fin
    cases hb : b (xs.map some ++ List.replicate (N.length - xs.length) none) S1 with
    | bad => rw [hb] at fin; exact fin
    | bk _ _ => rw [hb] at fin; exact fin.elim
    | ct _ _ => rw [hb] at fin; exact fin.elim
    | nx ρ S' => rw [hb] at fin; exact fun σ H' m' s' o' e' => fin V.non H' m' s' o' .non
    | rt x S' => rw [hb] at fin; exact fun v H' m' s' o' r' => fin v H' m' s' o' r'
    | exc e ρ S' => rw [hb] at fin; exact fun c d σ H' m' s' o' e' x' => fin c d H' m' s' o' x'
  refine wpAny_mono ((body fa A outer s H E (guards_deeper g) (room.deeper _) (takes_of rfl rfl rfl rfl)).run [] s1 (start N vs) H _ (inv_start S room.hd e0 hl rv z) hq) (fun fl s2 q => ?_) fun _ _ q => q
  cases fl with
  | next => exact (let ⟨σ', H', J, q⟩ := q; ⟨V.non, H', J.os, J.bare, J.base, J.hok, rfl, q⟩)
  | ret u => exact (let ⟨v, σ', H', J, r, q⟩ := q; ⟨v, H', J.os, J.bare, J.base, J.hok, r, q⟩)
  | brk => exact (let ⟨_, _, _, q⟩ := q; q.elim)
  | cont => exact (let ⟨_, _, _, q⟩ := q; q.elim)
theorem calG_ofT {nm : Str} {st : Stmt} {ps : List Str} {j n : Nat} {f : Fn} (D : At K mg nm st) (bd : ∀ fa fd, Fun K nm nm st fa fd → Binds K fd ps []) (h : ∀ fa fd, mg nm = some (.ref fa) → Fun K nm nm st fa fd → FnG P w K mg base j fa fd ps (spF K cl n f)) (hn : ps.length = n := by rfl) : CalG P w K mg base cl j nm n f := by
  obtain ⟨fa, fd, hm, F⟩ := D
  exact ⟨fa, fd, ps, hm, F.kp, bd _ _ F, hn, h _ _ hm F⟩
/-- the code object of a def, from the written part -/
theorem code_of {x : Str} {co Pt : Addr} {h : Heap} (X : K.In h) (G : h.Ns mainGlobals mg) (ht : PySem.W.tabIn K x = some (co, Pt)) {st : Stmt} (fa : Addr) (fd : FuncData) (F : Fun K x x st fa fd) (hm : mg x = some (.ref fa)) : fd.code = .ref co := by
  obtain ⟨oc, od, kV, doc, pm, an, cdv, ct, osl, e, lk, hcd⟩ := F.ex
  exact PySem.W.law_code X G ht hm (X _ _ lk) rfl
end
theorem tabs_one {Pt : Addr} {q : Str} {H : Hp} (h : H Pt = some (.tbl #[])) : Tabs [(Pt, q)] H := fun p hp => by
  rw [List.mem_singleton.mp hp]
  exact ⟨#[], h, ⟨⟩, fun pos cv z => by cases z⟩
section
variable {P : Program} {w : World} {K : PySem.W.Frag} {mg mb : Str → Option Value} {k : Nat} {fa a co Pt : Addr} {fd : FuncData} {x : Str} {sp : Sp} {s₁ : Shared} {vs : List Value} {ns : List Int}
/-- from a heap in which at most the script and the table are seen -/
theorem law_coreT (KX : K.In s₁.heap) (hns : s₁.heap.Ns mainGlobals mg) (hb : s₁.heap.Ns builtinsNs mb) (hbb : ∀ y : Str, y ≠ "__name__" → mb y = bootBuiltins y) (hlim : s₁.heap.NoLimit)
    (hg : s₁.gens = #[]) (hT : s₁.heap.get? Pt = some (PySem.W.tabObj #[])) (nT : K.lookup Pt = none) (C : PySem.W.CodeHd s₁.heap co Pt)
    (hbm : ∃ (bm : Addr) (ob : Obj), mg "__builtins__" = some (.ref bm) ∧ bm ≠ builtinsNs ∧ s₁.heap.get? bm = some ob ∧ ob.cls = .type "module" ∧ ob.dict = some builtinsNs ∧ ob.data = .plain)
    (ha : s₁.heap.get? a = some { cls := .type "list", data := .seq vs.toArray }) (hr : Room k callerA)
    (F : ∀ b : Heap, K.In b → b.Ns mainGlobals mg → TabB b mg co Pt → FnG P w K mg b k fa fd [x] sp) (hbind : ∀ (s : Shared) (u : Value), BindsTo s fd ⟨[u], []⟩ [(x, u)])
    (H : Hp) (hO : ∀ b, H b = none ∨ (b = Pt ∧ H b = some (.tbl #[])) ∨ ∃ o xs, H b = some (.frz o (.lst xs))) (hP : H Pt = some (.tbl #[])) (hok : HOk P w H s₁.heap) (hA : ∀ b, H b ≠ none → b = a ∨ b = Pt) (hK : H a ≠ none → K.lookup a = none) (hsp : sp [.ref a] H (fun v _ => v = V.bl true) fun _ _ _ => False) :
    codeAny (model P w) callerA (.call (.ref fa) ⟨[.ref a], []⟩) (fun r s' => r = .ok (.ret (.bool true)) ∧ OldK s₁.heap s'.heap ∧ s'.os = s₁.os ∧ AllBare s'.gens) s₁ := by
  have unseen : ∀ {b : Addr} {o : Obj}, s₁.heap.get? b = some o → o.data ≠ .seq vs.toArray 0 → o.data ≠ .fields #[] → H b = none := by
    intro b o e d d2
    cases q : H b with
    | none => rfl
    | some u =>
      rcases hA b (by rw [q]; exact fun z => by cases z) with z | z
      · rw [z, ha] at e
        cases e
        exact absurd rfl d
      · rw [z, hT] at e
        cases e
        exact absurd rfl d2
  have nsK : ∀ {b : Addr} {m : Str → Option Value}, s₁.heap.Ns b m → (hidT s₁.heap H).Ns b m := by
    rintro b m ⟨o, es, ep, e, d, r⟩
    exact ⟨o, es, ep, hidT_get e (unseen e (by rw [d]; exact fun z => by cases z) (by rw [d]; exact fun z => by cases z)), d, r⟩
  have hKb : K.In (hidT s₁.heap H) := by
    intro b o e
    refine hidT_get (KX b o e) ?_
    cases q : H b with
    | none => rfl
    | some u =>
      rcases hA b (by rw [q]; exact fun z => by cases z) with z | z
      · rw [z] at e q
        rw [hK (by rw [q]; exact fun z => by cases z)] at e
        cases e
      · rw [z, nT] at e
        cases e
  obtain ⟨mc, l1, l2⟩ := hlim
  have hM : Mod K mg (hidT s₁.heap H) := ⟨hKb, nsK hns, ⟨mb, nsK hb, hbb⟩, ⟨mc, nsK l1, l2⟩⟩
  have e0 : Env0 P w K mg (hidT s₁.heap H) callerA [] s₁ H := ⟨rfl, hM, fun b o => of_hidT, Nat.le_of_eq (hidT_size _ _), trivial, fun b (hb : b ∈ ([] : List Addr)) => by simp at hb, hok, .of_eq hg⟩
  have TB : TabB (hidT s₁.heap H) mg co Pt := by
    refine ⟨?_, ?_, fun z => ?_⟩
    · obtain ⟨o, us, file, tf, flags, tg, inF, text, tt, e1, r1, r2, r3, r⟩ := C
      exact ⟨o, us, file, tf, flags, tg, inF, text, tt, hidT_get e1 (unseen e1 (by rw [r2]; exact fun z => by cases z) (fun z => by rw [r2] at z; cases z; simp at r3)), r1, r2, r3, r⟩
    · obtain ⟨bm, ob, b1, b2, b3, b4, b5, b6⟩ := hbm
      refine ⟨bm, ob, b1, b2, fun q => ?_, fun q => ?_, hidT_get b3 (unseen b3 (by rw [b6]; exact fun z => by cases z) (by rw [b6]; exact fun z => by cases z)), b4, b5, b6⟩
      · obtain ⟨o, es, ep, e, hd, _⟩ := hns
        rw [q, e] at b3
        cases b3
        rw [hd] at b6
        cases b6
      · rw [q, hT] at b3
        cases b3
        cases b6
    · obtain ⟨o, es, ep, e, hd, _⟩ := hns
      rw [z, hT] at e
      cases e
      cases hd
  have run := (F _ hKb (nsK hns) TB).run (A := callerA) (outer := []) (s := s₁) (H := H) (args := ⟨[.ref a], []⟩) (us := [.ref a]) (vs := [.ref a]) rfl hr e0 (hbind s₁ (.ref a)) (.cons rfl .nil) hsp
  refine codeAny_mono run fun r s' h => ?_
  match r, h with
  | .error e, h => obtain ⟨_, _, _, _, _, _, _, _, _, _, _, _, z⟩ := h; exact z.elim
  | .ok .next, h => exact h.elim
  | .ok .brk, h => exact h.elim
  | .ok .cont, h => exact h.elim
  | .ok (.ret u), h =>
    obtain ⟨v, H', os, bare, un, hok', r', q⟩ := h
    cases (show v = V.bl true from q)
    obtain rfl : u = Value.bool true := r'
    obtain ⟨more, g1⟩ : ∃ more : Array Value, s'.heap.get? Pt = some { cls := .none, data := .fields more } := by
      obtain ⟨more, z⟩ := un.tbls Pt #[] hP
      exact ⟨_, hok' Pt _ z⟩
    have key : ∀ b o, b ≠ Pt → s₁.heap.get? b = some o → s'.heap.get? b = some o := fun b o nb e => by
      rcases hO b with z | ⟨z, _⟩ | ⟨ob, xs, z⟩
      · exact un.keep b o e z (fun z => List.not_mem_nil (show b ∈ ([] : List Addr) from z)) (by simp)
      · exact absurd z nb
      · have e1 := (hok b _ z).1
        have e2 := (hok' b _ (un.frzs b ob _ z)).1
        rw [e] at e1
        cases e1
        exact e2
    refine ⟨rfl, ⟨fun b o e => ?_, fun b o e => ?_⟩, os, bare⟩
    · by_cases hb : b = Pt
      · subst hb
        rw [hT] at e
        cases e
        exact .inr (.inl ⟨(C.tab hT).isCodeTable, rfl, #[], more, rfl, by rw [Array.empty_append]; exact g1⟩)
      · exact .inl (key b o hb e)
    · by_cases hb : b = Pt
      · exact ⟨_, by rw [hb]; exact g1⟩
      · exact ⟨o, key b o hb e⟩
theorem law_callT (KX : K.In s₁.heap) (hns : s₁.heap.Ns mainGlobals mg) (hb : s₁.heap.Ns builtinsNs mb) (hbb : ∀ y : Str, y ≠ "__name__" → mb y = bootBuiltins y) (hlim : s₁.heap.NoLimit)
    (hg : s₁.gens = #[]) (hT : s₁.heap.get? Pt = some (PySem.W.tabObj #[])) (nT : K.lookup Pt = none) (C : PySem.W.CodeHd s₁.heap co Pt)
    (hbm : ∃ (bm : Addr) (ob : Obj), mg "__builtins__" = some (.ref bm) ∧ bm ≠ builtinsNs ∧ s₁.heap.get? bm = some ob ∧ ob.cls = .type "module" ∧ ob.dict = some builtinsNs ∧ ob.data = .plain)
    (ha : s₁.heap.get? a = some { cls := .type "list", data := .seq vs.toArray }) (hi : IntsAre vs ns) (hl : ns.length ≤ sizeLine) (hr : Room k callerA)
    (F : ∀ b : Heap, K.In b → b.Ns mainGlobals mg → TabB b mg co Pt → FnG P w K mg b k fa fd [x] sp) (hbind : ∀ (s : Shared) (u : Value), BindsTo s fd ⟨[u], []⟩ [(x, u)])
    (hsp : ∀ H : Hp, H Pt = some (.tbl #[]) → SqL K H a (ns.map V.int) → sp [.ref a] H (fun v _ => v = V.bl true) fun _ _ _ => False) :
    codeAny (model P w) callerA (.call (.ref fa) ⟨[.ref a], []⟩) (fun r s' => r = .ok (.ret (.bool true)) ∧ OldK s₁.heap s'.heap ∧ s'.os = s₁.os ∧ AllBare s'.gens) s₁ := by
  have rv := vals_ints hi
  have nP : a ≠ Pt := fun z => by rw [z, hT] at ha; cases ha
  cases hk : K.lookup a with
  | some o =>
    have e := (KX a o hk).symm.trans ha
    cases e
    let H : Hp := fun b => if b = Pt then some (.tbl #[]) else none
    have h1 : H Pt = some (.tbl #[]) := if_pos rfl
    have h2 : ∀ {b}, b ≠ Pt → H b = none := fun h => if_neg h
    refine law_coreT KX hns hb hbb hlim hg hT nT C hbm ha hr F hbind H (fun b => ?_) h1 (fun b u z => ?_) (fun b z => ?_) (fun z => absurd (h2 nP) z) (hsp _ h1 (.inr ⟨_, vs.toArray, _, hk, rfl, rfl, rfl, ?_, by simpa using rv⟩))
    · by_cases h : b = Pt
      · exact .inr (.inl ⟨h, by rw [h]; exact h1⟩)
      · exact .inl (h2 h)
    · by_cases h : b = Pt
      · rw [h, h1] at z
        cases z
        rw [h]
        exact hT
      · rw [h2 h] at z
        cases z
    · by_cases h : b = Pt
      · exact .inr h
      · exact absurd (h2 h) z
    · rw [List.size_toArray, hi.length]
      exact hl
  | none =>
    let H : Hp := fun b => if b = a then some (.frz { cls := .type "list", data := .seq vs.toArray } (.lst (ns.map V.int))) else if b = Pt then some (.tbl #[]) else none
    have at1 : H a = some (.frz { cls := .type "list", data := .seq vs.toArray } (.lst (ns.map V.int))) := if_pos rfl
    have at2 : H Pt = some (.tbl #[]) := (if_neg (Ne.symm nP)).trans (if_pos rfl)
    have at3 : ∀ {b}, b ≠ a → b ≠ Pt → H b = none := fun h h' => (if_neg h).trans (if_neg h')
    refine law_coreT KX hns hb hbb hlim hg hT nT C hbm ha hr F hbind H (fun b => ?_) at2 (fun b u z => ?_) (fun b z => ?_) (fun _ => hk) (hsp H at2 (.inl (.inr ⟨_, at1⟩)))
    · by_cases h : b = a
      · subst h; exact .inr (.inr ⟨_, _, at1⟩)
      · by_cases h' : b = Pt
        · exact .inr (.inl ⟨h', by rw [h']; exact at2⟩)
        · exact .inl (at3 h h')
    · by_cases h : b = a
      · subst h
        rw [at1] at z
        cases z
        exact ⟨ha, by rw [List.length_map]; exact hl, vs, _, rv, ha⟩
      · by_cases h' : b = Pt
        · rw [h', at2] at z
          cases z
          rw [h']
          exact hT
        · rw [at3 h h'] at z
          cases z
    · by_cases h : b = a
      · exact .inl h
      · by_cases h' : b = Pt
        · exact .inr h'
        · exact absurd (at3 h h') z
end
theorem walkT {l : PySem.W.OpenLaw} {k : Nat} {q : Program} {loose : List Str} {XP : (Str → Option Value) → Heap → Prop} {YP : World → Heap → Prop} {d : DefRec} {K : Params → PySem.W.Frag} {x qn : Str} {f : Fn} (L : LawSays f)
    (hn : l.most = some 63) (hdf : d.params.defaults = []) (hr : Room k callerA) (hY : ∀ (w : World) (h : Heap), YP w h → (K w.params).In h)
    (F : ∀ (w : World) (mg : Str → Option Value) (fa : Addr) (h : Heap), YP w h → (K w.params).In h → h.Ns mainGlobals mg → mg d.name = some (.ref fa) →
      ∃ (co Pt : Addr) (fd : FuncData) (cl : Nat → Addr), h.get? Pt = some (PySem.W.tabObj #[]) ∧ PySem.W.codeHdIn (K w.params) co Pt = true ∧ (K w.params).lookup Pt = none ∧ (∀ (s : Shared) (u : Value), BindsTo s fd ⟨[u], []⟩ [(x, u)]) ∧
        ∀ base : Heap, (K w.params).In base → base.Ns mainGlobals mg → TabB base mg co Pt → FnG l.prog w (K w.params) mg base k fa fd [x] (spF (K w.params) ⟨cl, [(Pt, qn)]⟩ 1 f)) :
    PySem.W.WalkO q loose XP YP l.row.toRowW d [] (fun f vs => PySem.call f vs) := by
  refine Att.attach_call hn hdf fun w s₀ s₁ mg mb fa o pm cd doc a vs ns G Y ho hd hcd hmg hobj hints hlen hg => ?_
  have KX := hY w _ Y
  obtain ⟨co, Pt, fd, cl, hT, ht, nT, hb, hF⟩ := F w mg fa _ Y KX G.T.g hmg
  exact law_callT KX G.T.g G.T.b G.T.builtins G.T.nolimit hg hT nT (PySem.W.codeHd_of_K KX ht) G.T.bmain hobj hints (Nat.le_trans hlen (by decide)) hr hF hb fun H hH hS => spLaw L H a ns hlen hS (tabs_one hH)
/-- the law's end where a def hands lambdas on -/
theorem law_endT {P : Program} {w : World} {K : PySem.W.Frag} {mg : Str → Option Value} {h : Heap} {pn qn : Str} {cl : Nat → Addr} {st : Stmt} {fa co Pt : Addr} {j : Nat} {f : Fn} (hm : mg "law" = some (.ref fa)) (D : At K mg "law" st) (hT : h.get? Pt = some (PySem.W.tabObj #[])) (hc : PySem.W.codeHdIn K co Pt = true) (nT : K.lookup Pt = none)
    (bd : ∀ fa fd, Fun K "law" "law" st fa fd → ∀ (s : Shared) (u : Value), BindsTo s fd ⟨[u], []⟩ [(pn, u)])
    (hF : ∀ (base : Heap), TabB base mg co Pt → ∀ fa fd, Fun K "law" "law" st fa fd → FnG P w K mg base j fa fd [pn] (spF K ⟨cl, [(Pt, qn)]⟩ 1 f)) :
    ∃ (co Pt : Addr) (fd : FuncData) (cl : Nat → Addr), h.get? Pt = some (PySem.W.tabObj #[]) ∧ PySem.W.codeHdIn K co Pt = true ∧ K.lookup Pt = none ∧ (∀ (s : Shared) (u : Value), BindsTo s fd ⟨[u], []⟩ [(pn, u)]) ∧
        ∀ base : Heap, K.In base → base.Ns mainGlobals mg → TabB base mg co Pt → FnG P w K mg base j fa fd [pn] (spF K ⟨cl, [(Pt, qn)]⟩ 1 f) := by
  obtain ⟨fa', fd, hm', F⟩ := D
  cases hm.symm.trans hm'
  exact ⟨co, Pt, fd, cl, hT, hc, nT, bd _ _ F, fun base _ _ tb => hF base tb _ _ F⟩
end T3
namespace T3
open PySem PySem.Spec PyProof.Rows L2 LamX L2H
section
variable {X : Cx} {cl : ClT} {W : WX}
theorem repl_si {N : Addr → Prop} {H : Hp} : ∀ kvs : List (Str × Int), RepL X.K cl N H (kvs.map fun kv => V.int kv.2) (kvs.map fun kv => D.int kv.2)
  | [] => .nil
  | kv :: r => .cons (.int _) (repl_si r)
noncomputable def cDic0 : CE := fun _ S => .ok (.val (.dic [] [])) S
theorem pm_dic0 {pos : Pos} : PE X (.Dict [] [] pos) (tM X.K cl W cDic0) := PE.imp pe_dnewK fun σ H Q h => by
  obtain ⟨B, m, S, ρ, o, e, fin⟩ := h
  exact fun p hp => fin (.ref p) _ m (Step.new hp) (o.new hp) (.dic (ks := []) (xs := []) upd_same (o.fresh hp) rfl .nil)
noncomputable def cDicC (kvs : List (Str × Int)) : CE := fun _ S => .ok (.val (.dic (kvs.map fun kv => Sum.inr kv.1) (kvs.map fun kv => .int kv.2))) S
theorem pm_dicC (kvs : List (Str × Int)) {keys : List (Option Expr)} {vals : List Expr} {pos : Pos} (hp : PPs X pos keys vals (trC kvs)) (hall : keys.all (·.isSome) = true := by rfl) (hl : keys.length = vals.length := by rfl) (h0 : keys ≠ [] := by exact fun z => by cases z) (h15 : keys.length ≤ 15 := by decide) (nd : (kvs.map Prod.fst).Nodup := by decide +kernel) (hkl : kvs.length ≤ 15 := by decide) :
    PE X (.Dict keys vals pos) (tM X.K cl W (cDicC kvs)) := PE.imp (pe_disp hp hall hl h0 h15) fun σ H Q h => by
  obtain ⟨B, m, S, ρ, o, en, fin⟩ := h
  refine fun p hp => tPairs_c ⟨upd_same, siK kvs, by simp [kV], by simpa using hkl, ?_⟩
  have nd2 : ((siK kvs).map Prod.fst).Nodup := by
    rw [List.map_map]
    have : (Prod.fst ∘ fun kv : Str × Int => ((Sum.inr kv.1 : Key), V.int kv.2)) = (Sum.inr : Str → Key) ∘ Prod.fst := rfl
    rw [this, ← List.map_map]
    exact List.Pairwise.map _ (fun a b h e => h (Sum.inr.inj e)) nd
  rw [merge_new _ [] nd2 (fun a ha => by simp at ha), List.nil_append]
  have eqh : upd (upd H p (.dK [])) p (.dK (siK kvs)) = upd H p (.dK (siK kvs)) := by
    funext b
    by_cases e : b = p
    · subst e; rw [upd_same, upd_same]
    · rw [upd_ne e, upd_ne e, upd_ne e]
  rw [eqh]
  have hz : siK kvs = (kvs.map fun kv => (Sum.inr kv.1 : Key)).zip (kvs.map fun kv => V.int kv.2) := by
    induction kvs with
    | nil => rfl
    | cons a r _ => simp [siK, List.zip_map']
  refine fin (.ref p) _ m (Step.new hp) (o.new hp) (.dic (xs := kvs.map fun kv => V.int kv.2) (by rw [upd_same, hz]) (o.fresh hp) (by simp) ?_)
  exact repl_si kvs
/-- the c-th def -/
noncomputable def defD (c : Nat) : D := .ins c [] []
theorem pm_fn {x : Str} {c : Nat} {pos : Pos} (hm : X.mg x = some (.ref (cl c))) (hc : 2000 ≤ c := by decide) (hg : Gl X x := by rfl) (hd : (x == ("__debug__" : Str)) = false := by decide) : PE X (.Name x pos) (tM X.K cl W (cK (defD c))) :=
  pm_g (v := .ref (cl c)) ⟨_, hm, rfl⟩ (fun N H => .ins (.inr (.inr ⟨rfl, hc, rfl, rfl⟩)) .nil) hg hd
/-- a(e, ..), a a def -/
noncomputable def cCallV (tbl : Nat → Option Fn) (n : Nat) (adopt : Bool) (ce : CE) (c : CA) : CE := fun ρ S => (ce ρ S).bind fun x S1 => match x with
  | .val (.ins k [] []) => (match tbl k with
    | some f => cCall n adopt f c ρ S1
    | none => .bad)
  | _ => .bad
theorem pm_callV (adopt : Bool) {nm : Str} {tbl : Nat → Option Fn} {n j k : Nat} {e : Expr} {es : List Expr} {ce : CE} {c : CA} {p pos : Pos} (hv : PE X (.Name nm p) (tM X.K cl W ce)) (ht : ∀ i f, tbl i = some f → 2000 ≤ i ∧ ∃ y, X.mg y = some (.ref (cl i)) ∧ CalG X.prog X.w X.K X.mg X.base cl j y n f)
    (hr : Room k X.A) (g : X.A.guards = some []) (tk : Takes X W) (ha : PA X (e :: es) (tML X.K cl W c)) (hk : j ≤ k := by decide) (he : starEach (e :: es) X.env = (false, eval e X.env) :: starEach es X.env := by rfl)
    (hpl : (backTo pos (starEach es X.env)).any (·.1) = false := by rfl) : PE X (.Call (.Name nm p) (e :: es) [] pos) (tM X.K cl W (cCallV tbl n adopt ce c)) := by
  refine ⟨fun pins s σ H Q I h => ?_⟩
  obtain ⟨B, m, S, ρ, o, en, fin⟩ := h
  refine wpAny_Call_Name_kw (thn (hv.run pins s σ H (fun v H1 => ∃ i f, v = .ref (cl i) ∧ tbl i = some f ∧ tM X.K cl W (cCall n adopt f c) σ H1 Q) I ⟨B, m, S, ρ, o, en, Fin.bind fin fun x S1 v H1 m1 s1 o1 r1 f1 => ?_⟩) fun u s1 hh => ?_)
  · split at f1
    · rename_i i
      split at f1
      · rename_i f hf
        refine ⟨i, f, ?_, hf, B, m1, S1, ρ, o1, s1.env o en, f1⟩
        cases r1 with
        | ins t q =>
          rcases t with ⟨z, _⟩ | ⟨rfl, _⟩ | ⟨rfl, _⟩
          · have := (ht i f hf).1; omega
          · rfl
          · rfl
      · exact f1.elim
    · exact f1.elim
  · obtain ⟨v, H1, I1, rv, i, f, rfl, hf, h2⟩ := hh
    obtain rfl : u = Value.ref (cl i) := rv
    obtain ⟨_, y, hy, C⟩ := ht i f hf
    obtain ⟨fa, fd, ps, hm, hkp, hb, hps, F⟩ := C.ex
    have ea : cl i = fa := by have := hy.symm.trans hm; injection this with this; injection this
    rw [ea]
    refine PySem.W.callWith_K (h₀ := X.base) I1.ok.mod.kin hkp (thn (ha.run pos pins s1 σ H1 _ I1 (call_ok h2)) fun us s2 ⟨vs, H2, I2, r, q⟩ => ⟨I2.kIn, ?_⟩) he hpl
    have hl : us.length = ps.length := by rw [← r.length, q.1, hps]
    have b := hb s2 us I2.kIn (by rw [List.append_nil]; exact hl)
    rw [List.append_nil] at b
    exact run_fnG (F.up hk) hr g tk I2 b r q
theorem CalG.up {P : Program} {w : World} {K : PySem.W.Frag} {mg : Str → Option Value} {base : Heap} {j k n : Nat} {nm : Str} {f : Fn} (C : CalG P w K mg base cl j nm n f) (h : j ≤ k) : CalG P w K mg base cl k nm n f := by
  obtain ⟨fa, fd, ps, h1, h2, h3, h4, F⟩ := C.ex
  exact ⟨fa, fd, ps, h1, h2, h3, h4, F.up h⟩
end
noncomputable def fA (K : PySem.W.Frag) (x : Str) : Addr := match PySem.W.nsIn K mainGlobals x with
  | some (some (.ref a)) => a
  | _ => 0
noncomputable def cfn (K : PySem.W.Frag) (fns : List Str) : Nat → Addr := fun n => if n < 2000 then xA K n else fA K (fns.getD (n - 2000) "")
theorem errG_cfn {K : PySem.W.Frag} {mg : Str → Option Value} {is : List Nat} (fns : List Str) (E : ErrG K mg (xA K) is) (hi : ∀ i ∈ is, i < 25) : ErrG K mg (cfn K fns) is := by
  have e : ∀ j, j < 25 → cfn K fns j = xA K j := fun j hj => if_pos (by omega)
  refine ⟨fun j hj => by rw [e j hj]; exact E.nm j hj, fun i h j hj => by rw [e i (hi i h), e j hj]; exact E.ki i h j hj, fun i h => by rw [e i (hi i h)]; exact E.k1 i h, fun i h => by rw [e i (hi i h)]; exact E.k2 i h, fun i h => by rw [e i (hi i h)]; exact E.k3 i h, fun i h => by rw [e i (hi i h)]; exact E.ce i h, fun i h => ?_,
    fun i h => by rw [e i (hi i h)]; exact E.n1 i h, fun i h => by rw [e i (hi i h)]; exact E.n2 i h, fun i h => by rw [e i (hi i h)]; exact E.n3 i h⟩
  rw [e i (hi i h), e 22 (by decide), e 23 (by decide), e 24 (by decide)]
  exact E.ex i h
theorem fnv_mk {K : PySem.W.Frag} {h : Heap} {mg : Str → Option Value} {fns : List Str} {T : List (Addr × Str)} {x : Str} {i : Nat} (X : K.In h) (G : h.Ns mainGlobals mg) (b : decide (PySem.W.nsIn K mainGlobals x = some (some (.ref (cfn K fns i)))) = true) : mg x = some (.ref ((⟨cfn K fns, T⟩ : ClT) i)) := PySem.W.mg_of X G (of_decide_eq_true b)
end T3
namespace T3
open PySem PySem.Spec PyProof.Rows L2
noncomputable def g_DIGITS : D := .str "012"
noncomputable def g_MOST_PLACES : D := .int 3
noncomputable def b__law_places : CS := sRet (cBin (fAdd false) (cMt tyL fIndex (cLst true (cCons (cI 3) (cCons (cI 9) (cCons (cI 27) (cNil))))) (cCons (cB1 (fLen) (cCons (cV 0) (cNil))) cNil)) (cI 1))
noncomputable def m__law_places : Fn := runF 1 b__law_places
noncomputable def b__law_draw : CS := sSeq (sAsg (tgSub (cV 0) (cI 2)) (cBin (fAdd true) (cBin fIx (cV 0) (cI 2)) (cI 1))) (sSeq (sAsg (tgSub (cV 0) (cI 1)) (cBin fMod (cB1 (fInt) (cCons (cBin (fAdd true) (cBin (fAdd true) (cBin (fMul true) (cBin fIx (cV 0) (cI 1)) (cI 69621)) (cBin (fMul true) (cI 40503) (cBin fIx (cV 0) (cI 2)))) (cI 1)) (cNil))) (cI 2147483647))) (sSeq (sIf (cBin fGt (cBin fIx (cV 0) (cI 0)) (cI 0)) (sSeq (sAsg (tgAny 2 (tgCons (tgSub (cV 0) (cI 0)) (tgCons (tgName 4) (tgNil)))) (cB1 (fDivmod) (cCons (cBin fIx (cV 0) (cI 0)) (cCons (cV 1) (cNil))))) (sRet (cV 4))) (sNil)) (sSeq (sAsg (tgName 2) (cBin (fAdd true) (cBin fIx (cV 0) (cI 1)) (cI 12345))) (sSeq (sAsg (tgName 3) (cBin fMod (cB1 (fInt) (cCons (cBin (fAdd true) (cBin (fMul true) (cV 2) (cBin fIx (cV 0) (cI 1))) (cBin fIx (cV 0) (cI 2))) (cNil))) (cI 2147483629))) (sRet (cBin fMod (cB1 (fInt) (cCons (cBin fFdv (cV 3) (cI 256)) (cNil))) (cV 1)))))))
noncomputable def m__law_draw : Fn := runF 5 b__law_draw
noncomputable def b__law_of : CS := sRet (cBin fIx (cV 1) (cCall 2 false m__law_draw (cCons (cV 0) (cCons (cB1 (fLen) (cCons (cV 1) (cNil))) (cNil)))))
noncomputable def m__law_of : Fn := runF 2 b__law_of
noncomputable def b__law_table : CS := sSeq (sAsg (tgName 2) (cLst false (cCons (cLst true (cCons (cS "012") (cCons (cS "120") (cCons (cS "201") (cCons (cS "210") (cCons (cS "102") (cCons (cS "000") (cCons (cS "111") (cCons (cS "001") (cCons (cS "122") (cCons (cS "020") (cNil)))))))))))) (cNil)))) (sSeq (sExp (cMt tyL fAppend (cV 2) (cCons (cLst true (cCons (cS "012112222") (cCons (cS "000011012") (cCons (cS "012120201") (cCons (cS "120220000") (cCons (cS "000111222") (cCons (cS "012012012") (cNil)))))))) cNil))) (sSeq (sAsg (tgSub (cV 2) (cI 1)) (cBin (fAdd true) (cBin fIx (cV 2) (cI 1)) (cLst true (cCons (cS "000000012") (cCons (cS "021102210") (cNil)))))) (sSeq (sIf (cAnd (cBin fLt (cV 1) (cI 3)) (cBin fEq (cCall 2 false m__law_draw (cCons (cV 0) (cCons (cI 2) (cNil)))) (cI 0))) (sRet (cCall 2 true m__law_of (cCons (cV 0) (cCons (cBin fIx (cV 2) (cBin fSub (cV 1) (cI 1))) (cNil))))) (sNil)) (sRet (cMt tyS fJoin (cS "") (cCons (cLc true [3] (ciR1 (cBin fIx (cLst true (cCons (cI 3) (cCons (cI 9) (cCons (cI 27) (cNil))))) (cBin fSub (cV 1) (cI 1)))) (tgName 3) (cYes) (cB1 (fStr) (cCons (cCall 2 false m__law_draw (cCons (cV 0) (cCons (cI 3) (cNil)))) (cNil)))) cNil))))))
noncomputable def m__law_table : Fn := runF 4 b__law_table
noncomputable def b_size_of : CS := sSeq (sAsg (tgName 1) (cI 1)) (sSeq (sFor (ciR1 (cV 0)) (tgName 2) (sAsg (tgName 1) (cBin (fMul true) (cV 1) (cI 3)))) (sRet (cV 1)))
noncomputable def m_size_of : Fn := runF 3 b_size_of
noncomputable def b_is_table : CS := sSeq (sIf (cOr (cNot (cTru (cIsi "str" (cV 0)))) (cBin fNotIn (cB1 (fLen) (cCons (cV 0) (cNil))) (cLc true [2] (ciR1 (cK g_MOST_PLACES)) (tgName 2) (cYes) (cCall 1 false m_size_of (cCons (cBin (fAdd true) (cV 2) (cI 1)) (cNil)))))) (sRet (cB false)) (sNil)) (sRet (cB1 (fAll) (cCons (cLcV true [1] (cV 0) (tgName 1) (cYes) (cBin fIn (cV 1) (cK g_DIGITS))) (cNil))))
noncomputable def m_is_table : Fn := runF 3 b_is_table
noncomputable def b_check_table : CS := sIf (cNot (cTru (cCall 1 false m_is_table (cCons (cV 0) (cNil))))) (sRaiseX 2 "given" (cV 0)) (sNil)
noncomputable def m_check_table : Fn := runF 1 b_check_table
noncomputable def b_all_arguments : CS := sSeq (sAsg (tgName 1) (cLst true (cCons (cTup (cNil)) (cNil)))) (sSeq (sFor (ciR1 (cV 0)) (tgName 2) (sAsg (tgName 1) (cLc2 true [3, 4] [4] (ciV (cV 1)) (tgName 3) (cYes) (ciR1 (cI 3)) (tgName 4) (cYes) (cTup (cStar (cV 3) (cCons (cV 4) (cNil))))))) (sRet (cV 1)))
noncomputable def m_all_arguments : Fn := runF 5 b_all_arguments
noncomputable def b_places_of : CS := sRet (cBin fIx (cLc true [1] (ciR1 (cK g_MOST_PLACES)) (tgName 1) (cBin fEq (cCall 1 false m_size_of (cCons (cBin (fAdd true) (cV 1) (cI 1)) (cNil))) (cB1 (fLen) (cCons (cV 0) (cNil)))) (cBin (fAdd true) (cV 1) (cI 1))) (cI 0))
noncomputable def m_places_of : Fn := runF 2 b_places_of
noncomputable def b_index_of : CS := sSeq (sAsg (tgName 1) (cI 0)) (sSeq (sForV (cV 0) (tgName 2) (sAsg (tgName 1) (cBin (fAdd true) (cBin (fMul true) (cI 3) (cV 1)) (cV 2)))) (sRet (cV 1)))
noncomputable def m_index_of : Fn := runF 3 b_index_of
noncomputable def b_value_at : CS := sRet (cB1 (fInt) (cCons (cBin fIx (cV 0) (cCall 1 false m_index_of (cCons (cV 1) (cNil)))) (cNil)))
noncomputable def m_value_at : Fn := runF 2 b_value_at
noncomputable def b_counts_at : CS := sSeq (sFor (ciV (cCall 1 false m_all_arguments (cCons (cCall 1 false m_places_of (cCons (cV 0) (cNil))) (cNil)))) (tgName 2) (sSeq (sAsg (tgName 3) (cLc true [4] (ciR1 (cI 3)) (tgName 4) (cYes) (cTup (cStar (cSl true (cV 2) none (some (cV 1))) (cCons (cV 4) (cStar (cSl true (cV 2) (some (cBin (fAdd true) (cV 1) (cI 1))) none) (cNil))))))) (sIf (cBin fGt (cLenSet (cLcV true [5] (cV 3) (tgName 5) (cYes) (cCall 2 false m_value_at (cCons (cV 0) (cCons (cV 5) (cNil)))))) (cI 1)) (sRet (cB true)) (sNil)))) (sRet (cB false))
noncomputable def m_counts_at : Fn := runF 6 b_counts_at
noncomputable def b_counting_of : CS := sRet (cB1 (fTuple) (cCons (cLc true [1] (ciR1 (cCall 1 false m_places_of (cCons (cV 0) (cNil)))) (tgName 1) (cTru (cCall 2 false m_counts_at (cCons (cV 0) (cCons (cV 1) (cNil))))) (cV 1)) (cNil)))
noncomputable def m_counting_of : Fn := runF 2 b_counting_of
noncomputable def b_counting : CS := sSeq (sExp (cCall 1 false m_check_table (cCons (cV 0) (cNil)))) (sRet (cCall 1 true m_counting_of (cCons (cV 0) (cNil))))
noncomputable def m_counting : Fn := runF 1 b_counting
noncomputable def b_digits_of : CS := sSeq (sExp (cCall 1 false m_check_table (cCons (cV 0) (cNil)))) (sRet (cB1 (fTuple) (cCons (cLc true [1] (ciV (cK g_DIGITS)) (tgName 1) (cYes) (cB1 (fLen) (cCons (cLcV true [2] (cV 0) (tgName 2) (cBin fEq (cV 2) (cV 1)) (cV 2)) (cNil)))) (cNil))))
noncomputable def m_digits_of : Fn := runF 3 b_digits_of
noncomputable def b_fixed : CS := sSeq (sExp (cCall 1 false m_check_table (cCons (cV 0) (cNil)))) (sSeq (sAsg (tgName 1) (cCall 1 false m_places_of (cCons (cV 0) (cNil)))) (sRet (cB1 (fTuple) (cCons (cLc true [2] (ciR1 (cI 3)) (tgName 2) (cBin fEq (cCall 2 false m_value_at (cCons (cV 0) (cCons (cBin (fMul true) (cTup (cCons (cV 2) (cNil))) (cV 1)) (cNil)))) (cV 2)) (cV 2)) (cNil)))))
noncomputable def m_fixed : Fn := runF 3 b_fixed
noncomputable def b_is_full : CS := sRet (cB1 (fAll) (cCons (cLc true [1] (ciV (cK g_DIGITS)) (tgName 1) (cYes) (cBin fIn (cV 1) (cV 0))) (cNil)))
noncomputable def m_is_full : Fn := runF 2 b_is_full
noncomputable def b_is_onto : CS := sSeq (sExp (cCall 1 false m_check_table (cCons (cV 0) (cNil)))) (sRet (cCall 1 true m_is_full (cCons (cV 0) (cNil))))
noncomputable def m_is_onto : Fn := runF 1 b_is_onto
noncomputable def b_places : CS := sSeq (sExp (cCall 1 false m_check_table (cCons (cV 0) (cNil)))) (sRet (cCall 1 true m_places_of (cCons (cV 0) (cNil))))
noncomputable def m_places : Fn := runF 1 b_places
noncomputable def b_is_integer : CS := sRet (cAnd (cIsi "int" (cV 0)) (cNot (cIsi "bool" (cV 0))))
noncomputable def m_is_integer : Fn := runF 1 b_is_integer
noncomputable def b_is_between : CS := sRet (cAnd (cCall 1 false m_is_integer (cCons (cV 0) (cNil))) (cChain fLe fLe (cV 1) (cV 0) (cV 2)))
noncomputable def m_is_between : Fn := runF 3 b_is_between
noncomputable def b_are_arguments : CS := sRet (cAnd (cIsi "tuple" (cV 1)) (cAnd (cBin fEq (cB1 (fLen) (cCons (cV 1) (cNil))) (cV 0)) (cB1 (fAll) (cCons (cLcV true [2] (cV 1) (tgName 2) (cYes) (cCall 3 false m_is_between (cCons (cV 2) (cCons (cI 0) (cCons (cI 2) (cNil)))))) (cNil)))))
noncomputable def m_are_arguments : Fn := runF 3 b_are_arguments
noncomputable def b_value : CS := sSeq (sExp (cCall 1 false m_check_table (cCons (cV 0) (cNil)))) (sSeq (sIf (cNot (cTru (cCall 2 false m_are_arguments (cCons (cCall 1 false m_places_of (cCons (cV 0) (cNil))) (cCons (cV 1) (cNil)))))) (sRaiseX 4 "given" (cV 1)) (sNil)) (sRet (cCall 2 true m_value_at (cCons (cV 0) (cCons (cV 1) (cNil))))))
noncomputable def m_value : Fn := runF 2 b_value
noncomputable def b__law_spring : CS := sSeq (sAsg (tgName 2) (cIf (cBin fLt (cV 1) (cB1 (fLen) (cCons (cV 0) (cNil)))) (cBin fIx (cV 0) (cV 1)) (cBin (fAdd true) (cBin (fMul true) (cI 7) (cV 1)) (cI 2)))) (sSeq (sAsg (tgName 3) (cBin (fAdd true) (cI 90001) (cBin (fMul true) (cI 7919) (cV 1)))) (sSeq (sFor (ciV (cBin (fAdd true) (cSl true (cV 0) none (some (cI 8))) (cLst true (cCons (cV 2) (cNil))))) (tgName 4) (sAsg (tgName 3) (cBin fMod (cB1 (fInt) (cCons (cBin (fAdd true) (cBin (fAdd true) (cBin (fMul true) (cV 3) (cI 48271)) (cB1 (fInt) (cCons (cV 4) (cNil)))) (cBin (fMul true) (cI 11) (cV 1))) (cNil))) (cI 2147483647)))) (sRet (cLst false (cCons (cIf (cOr (cBin fLt (cV 2) (cI 0)) (cBin fGe (cV 2) (cBin fPow (cI 10) (cI 18)))) (cB1 (fAbs) (cCons (cV 2) (cNil))) (cI 0)) (cCons (cV 3) (cCons (cI 0) (cNil))))))))
noncomputable def m__law_spring : Fn := runF 5 b__law_spring
noncomputable def b_table_from : CS := sRet (cMt tyS fJoin (cS "") (cCons (cLcV true [1] (cV 0) (tgName 1) (cYes) (cB1 (fStr) (cCons (cV 1) (cNil)))) cNil))
noncomputable def m_table_from : Fn := runF 2 b_table_from
end T3
namespace T3
open PySem PySem.Spec PyProof.Rows L2
abbrev spr (p q r : Int) : O := .lst [.int p, .int q, .int r]
theorem mulOk_r {a b : Int} (h1 : -18446744073709551616 < b) (h2 : b < 18446744073709551616) : mulOk a b = true := by simp [mulOk, h1, h2]
theorem mulOk_l {a b : Int} (h1 : -18446744073709551616 < a) (h2 : a < 18446744073709551616) : mulOk a b = true := by simp [mulOk, h1, h2]
@[simp] theorem mulOk_m {a x : Int} : mulOk a (x % 2147483647) = true := mulOk_r (by have := Int.emod_nonneg x (show (2147483647 : Int) ≠ 0 by omega); omega) (by have := Int.emod_lt_of_pos x (show (0 : Int) < 2147483647 by omega); omega)
theorem c_draw (p q r n : Int) (h0 : 0 < n) (h1 : n < 1073741824) : ∃ d p' q' r' : Int, 0 ≤ d ∧ d < n ∧ m__law_draw [.ref 0, .val (.int n)] [spr p q r] = .ok (.val (.int d)) [spr p' q' r'] := by
  by_cases hp : 0 < p
  · refine ⟨p % n, p / n, (q * 69621 + 40503 * (r + 1) + 1) % 2147483647, r + 1, Int.emod_nonneg _ (by omega), Int.emod_lt_of_pos _ h0, ?_⟩
    unfold m__law_draw b__law_draw runF
    simp [mulOk_l, mulOk_r, h0, h1, ixN, hp]
  · refine ⟨?d, p, (q * 69621 + 40503 * (r + 1) + 1) % 2147483647, r + 1, ?_, ?_, ?e⟩
    case e =>
      unfold m__law_draw b__law_draw runF
      simp [mulOk_l, mulOk_r, h0, h1, ixN, hp]
      rfl
    · exact Int.emod_nonneg _ (by omega)
    · exact Int.emod_lt_of_pos _ h0
/-- what a def gives, as frozen data -/
noncomputable def gives (r : Res) : Option D := match r with
  | .ok (.val d) _ => some d
  | .ok (.ref j) S => S[j]?.bind frzO
  | _ => none
theorem vals_refs : ∀ {ds : List D}, refsOf (ds.map A.val) = []
  | [] => rfl
  | d :: r => vals_refs (ds := r)
theorem vals_renum : ∀ {ds : List D} {k : Nat}, renum k (ds.map A.val) = ds.map A.val
  | [], _ => rfl
  | d :: r, k => congrArg (A.val d :: ·) (vals_renum (ds := r))
/-- a call of values -/
theorem call_val {f : Fn} {xs : List A} {ds : List D} {d : D} {S : Store} (hx : xs = ds.map A.val) (h : gives (f xs []) = some d) : callIn false f xs S = .ok (.val d) S := by
  subst hx
  unfold callIn
  rw [vals_refs, if_pos List.nodup_nil]
  simp only [getAll, List.all_nil, if_true]
  rw [vals_renum]
  unfold gives at h
  cases hr : f (ds.map A.val) [] with
  | bad => rw [hr] at h; cases h
  | exc e S1 => rw [hr] at h; cases h
  | ok x S1 =>
    rw [hr] at h
    cases x with
    | val d' => cases h; simp [back, putAll]
    | ref j =>
      simp only [Option.bind_eq_some_iff] at h
      obtain ⟨o, h1, h2⟩ := h
      simp [back, putAll, h1, h2]
/-- .. whose new list is adopted -/
theorem call_new {f : Fn} {xs : List A} {ds : List D} {es : List D} {S S1 : Store} {j : Nat} (hx : xs = ds.map A.val) (h : f xs [] = .ok (.ref j) S1) (h1 : S1[j]? = some (.lst es)) : callIn true f xs S = .ok (.ref S.length) (S ++ [.lst es]) := by
  subst hx
  unfold callIn
  rw [vals_refs, if_pos List.nodup_nil]
  simp only [getAll, List.all_nil, if_true]
  rw [vals_renum, h]
  simp [back, putAll, h1, flatO]
/-- a call with one thing of the store ahead of values -/
theorem call_one {f : Fn} {ds : List D} {d : D} {S S1 : Store} {i : Nat} {o o' : O} (hi : S[i]? = some o) (ho : flatO o = true) (h : f (.ref 0 :: ds.map A.val) [o] = .ok (.val d) (o' :: S1)) (ho' : flatO o' = true) : callIn false f (.ref i :: ds.map A.val) S = .ok (.val d) (S.set i o') := by
  unfold callIn
  have e : refsOf (.ref i :: ds.map A.val) = [i] := by simp [vals_refs]
  rw [e, if_pos (by simp)]
  simp only [getAll, hi, List.all_cons, ho, List.all_nil, Bool.and_true, if_true]
  have e2 : renum 0 (.ref i :: ds.map A.val) = .ref 0 :: ds.map A.val := by simp [vals_renum]
  rw [e2, h]
  simp [back, ho', putAll]
theorem call_one1 {f : Fn} {d : D} {S S1 : Store} {i : Nat} {o o' : O} (hi : S[i]? = some o) (ho : flatO o = true) (h : f [.ref 0] [o] = .ok (.val d) (o' :: S1)) (ho' : flatO o' = true) : callIn false f [.ref i] S = .ok (.val d) (S.set i o') := call_one (ds := []) hi ho h ho'
theorem forL_inv {body : D → CS} {ds : List D} {ρ : Slots} {S : Store} (P : Nat → Slots → Store → Prop) (h0 : P 0 ρ S) (hs : ∀ i d ρ S, ds[i]? = some d → P i ρ S → ∃ ρ' S', body d ρ S = .nx ρ' S' ∧ P (i + 1) ρ' S') : ∃ ρ' S', forL body ds ρ S = .nx ρ' S' ∧ P ds.length ρ' S' := by
  induction ds generalizing ρ S P with
  | nil => exact ⟨ρ, S, rfl, h0⟩
  | cons d r ih =>
    obtain ⟨ρ1, S1, e1, p1⟩ := hs 0 d ρ S rfl h0
    obtain ⟨ρ2, S2, e2, p2⟩ := ih (P := fun i => P (i + 1)) p1 (fun i d ρ S hi hp => hs (i + 1) d ρ S hi hp)
    exact ⟨ρ2, S2, by simp only [forL, e1]; exact e2, p2⟩
theorem forL_q {body : D → CS} {ds : List D} {ρ : Slots} {S : Store} {q : SRes} (hq : forL body ds ρ S = q) (P : Nat → Slots → Store → Prop) (h0 : P 0 ρ S) (hs : ∀ i d ρ S, ds[i]? = some d → P i ρ S → ∃ ρ' S', body d ρ S = .nx ρ' S' ∧ P (i + 1) ρ' S') : ∃ ρ' S', q = .nx ρ' S' ∧ P ds.length ρ' S' := by
  obtain ⟨ρ', S', e, p⟩ := forL_inv P h0 hs
  exact ⟨ρ', S', hq.symm.trans e, p⟩
/-- one that changes the store -/
theorem lcGo_inv {f : Elm} {S : Store} (P : Nat → List D → Store → Prop) : ∀ {ds : List D}, P 0 [] S → (∀ i d acc S, ds[i]? = some d → P i acc S → ∃ y S', f d S = some (some y, S') ∧ P (i + 1) (acc ++ [y]) S') → ∃ ys S', lcGo f ds S = some (ys, S') ∧ P ds.length ys S' := by
  have go : ∀ (ds : List D) (k : Nat) (acc : List D) (S : Store), P k acc S → (∀ i d acc S, ds[i]? = some d → P (k + i) acc S → ∃ y S', f d S = some (some y, S') ∧ P (k + i + 1) (acc ++ [y]) S') → ∃ ys S', lcGo f ds S = some (ys, S') ∧ P (k + ds.length) (acc ++ ys) S' := by
    intro ds
    induction ds with
    | nil => exact fun k acc S h _ => ⟨[], S, rfl, by simpa using h⟩
    | cons d r ih =>
      intro k acc S h hs
      obtain ⟨y, S1, e1, p1⟩ := hs 0 d acc S rfl h
      obtain ⟨ys, S2, e2, p2⟩ := ih (k + 1) (acc ++ [y]) S1 p1 fun i d acc S hi hp => by
        have := hs (i + 1) d acc S hi (by rw [show k + (i + 1) = k + 1 + i by omega]; exact hp)
        rw [show k + (i + 1) + 1 = k + 1 + i + 1 by omega] at this
        exact this
      refine ⟨y :: ys, S2, by simp only [lcGo, e1, e2], ?_⟩
      rw [List.length_cons, show k + (r.length + 1) = k + 1 + r.length by omega]
      simpa using p2
  intro ds h hs
  obtain ⟨ys, S', e, p⟩ := go ds 0 [] S h fun i d acc S hi hp => by
    have := hs i d acc S hi (by simpa using hp)
    simpa using this
  exact ⟨ys, S', e, by simpa using p⟩
end T3
namespace T3
open PySem PySem.Spec PyProof.Rows L2
noncomputable def tx (t : List Nat) : Str := ⟨(t.map (48 + ·)).toArray⟩
noncomputable def sg (n : Nat) : Str := ⟨#[48 + n]⟩
noncomputable def Dg (t : List Nat) : Prop := ∀ x ∈ t, x < 3
noncomputable def nD (n : Nat) : D := .int n
noncomputable def tupN (a : List Nat) : D := .tup (a.map nD)
theorem tx_list (t : List Nat) : (tx t).cps.toList = t.map (48 + ·) := by simp [tx]
theorem tx_len (t : List Nat) : (tx t).length = t.length := by simp [tx, Str.length]
theorem szOk_le {n : Nat} (h : n ≤ 1000) : szOk n = true := decide_eq_true (Nat.le_trans h (by decide))
theorem int_sg {n : Nat} (h : n < 3) : PySem.intText? (sg n) = some (n : Int) := by
  match n, h with
  | 0, _ => decide +kernel
  | 1, _ => decide +kernel
  | 2, _ => decide +kernel
noncomputable def ix (a : List Nat) : Nat := a.foldl (fun n x => 3 * n + x) 0
theorem ix_snoc (a : List Nat) (x : Nat) : ix (a ++ [x]) = 3 * ix a + x := by simp [ix]
theorem ix_acc : ∀ (a : List Nat) (n : Nat), Dg a → a.foldl (fun n x => 3 * n + x) n < (n + 1) * 3 ^ a.length
  | [], n, _ => by simp
  | x :: r, n, h => by
    have h2 : x < 3 := h x (by simp)
    have ih := ix_acc r (3 * n + x) fun y hy => h y (List.mem_cons_of_mem _ hy)
    rw [List.foldl_cons, List.length_cons, Nat.pow_succ]
    refine Nat.lt_of_lt_of_le ih ?_
    rw [Nat.mul_comm (3 ^ r.length) 3, ← Nat.mul_assoc]
    exact Nat.mul_le_mul_right _ (by omega)
theorem ix_lt (a : List Nat) (h : Dg a) : ix a < 3 ^ a.length := by
  have := ix_acc a 0 h
  rw [Nat.zero_add, Nat.one_mul] at this
  exact this
theorem mul3 {n : Nat} : mulOk 3 (n : Int) = true := mulOk_l (by omega) (by omega)
theorem map_get {a : List Nat} {i : Nat} {d : D} (h : (a.map nD)[i]? = some d) : ∃ x, a[i]? = some x ∧ d = nD x := by
  rw [List.getElem?_map] at h
  cases e : a[i]? with
  | none => rw [e] at h; cases h
  | some x => rw [e] at h; cases h; exact ⟨x, rfl, rfl⟩
theorem ix_take {a : List Nat} {i x : Nat} (h : a[i]? = some x) : ix (a.take (i + 1)) = 3 * ix (a.take i) + x := by
  have : a.take (i + 1) = a.take i ++ [x] := by
    rw [List.take_add_one, h]
    rfl
  rw [this, ix_snoc]
noncomputable def gd (t : List Nat) (k : Nat) : Nat := t[k]?.getD 0
theorem ix_tx {t : List Nat} {k : Nat} {S : Store} (h : k < t.length) (hl : t.length ≤ 27) : fIx (.val (.str (tx t))) (.val (nD k)) S = .ok (.val (.str (sg (gd t k)))) S := by
  have hz : szOk (tx t).length = true := by rw [tx_len]; exact szOk_le (by omega)
  unfold nD
  rw [ix_str, if_pos hz, tx_list, List.length_map, ixN_nat h]
  simp [List.getElem?_eq_getElem h, sg, gd]
theorem int_sgS {x : Nat} {S : Store} (h : x < 3) : fInt [.val (.str (sg x))] S = .ok (.val (nD x)) S := by
  rw [int_str, int_sg h]
  rfl
theorem dg_get {t : List Nat} (ht : Dg t) (k : Nat) : gd t k < 3 := by
  unfold gd
  cases e : t[k]? with
  | none => decide
  | some x => exact ht x (List.mem_of_getElem? e)
theorem c_index (a : List Nat) (S : Store) : m_index_of [.val (tupN a)] S = .ok (.val (nD (ix a))) S := by
  unfold m_index_of b_index_of runF tupN
  simp
  generalize hq : forL _ _ _ _ = q
  obtain ⟨ρ', S', rfl, z, rfl, rfl⟩ := forL_q hq (fun i ρ S1 => ∃ z, ρ = [some (.val (.tup (a.map nD))), some (.val (nD (ix (a.take i)))), z] ∧ S1 = S) ⟨none, rfl, rfl⟩ (by
    rintro i d ρ S1 hd ⟨z, rfl, rfl⟩
    obtain ⟨x, hx, rfl⟩ := map_get hd
    simp [nD, mul3, ix_take hx])
  simp
theorem c_value_at (t a : List Nat) (S : Store) (ht : Dg t) (ha : ix a < t.length) (hl : t.length ≤ 27) : m_value_at [.val (.str (tx t)), .val (tupN a)] S = .ok (.val (nD (gd t (ix a)))) S := by
  unfold m_value_at b_value_at runF
  have h0 : ∀ S, callIn false m_index_of [.val (tupN a)] S = .ok (.val (nD (ix a))) S := fun S => call_val (ds := [tupN a]) rfl (by rw [c_index]; rfl)
  have h1 : ∀ S, fIx (.val (.str (tx t))) (.val (nD (ix a))) S = .ok (.val (.str (sg (gd t (ix a))))) S := fun S => ix_tx ha hl
  simp [h0, h1, int_sgS (dg_get ht _)]
structure Tb (t : List Nat) (n : Nat) : Prop where
  dg : Dg t
  len : t.length = 3 ^ n
  n1 : 1 ≤ n
  n3 : n ≤ 3
theorem Tb.cases {t : List Nat} {n : Nat} (h : Tb t n) : n = 1 ∨ n = 2 ∨ n = 3 := by have := h.n1; have := h.n3; omega
theorem Tb.le {t : List Nat} {n : Nat} (h : Tb t n) : t.length ≤ 27 := by
  rw [h.len]
  rcases h.cases with e | e | e <;> subst e <;> decide
noncomputable def allA : Nat → List (List Nat)
  | 0 => [[]]
  | n + 1 => (allA n).flatMap fun a => [a ++ [0], a ++ [1], a ++ [2]]
noncomputable def lstA (n : Nat) : D := .lst ((allA n).map tupN)
theorem c_args (n : Nat) (h : n ≤ 3) : gives (m_all_arguments [.val (nD n)] []) = some (lstA n) := by
  match n, h with
  | 0, _ => rfl
  | 1, _ => rfl
  | 2, _ => rfl
  | 3, _ => rfl
end T3
namespace T3
open PySem PySem.Spec PyProof.Rows L2
@[simp] theorem boolsOf_map {α : Type} (p : α → Bool) : ∀ l : List α, boolsOf (l.map fun x => D.bl (p x)) = some (l.map p)
  | [] => rfl
  | x :: r => by
    rw [List.map_cons, List.map_cons]
    simp only [boolsOf, boolsOf_map p r, Option.map_some]
@[simp] theorem intsOf_map {α : Type} (p : α → Int) : ∀ l : List α, intsOf (l.map fun x => D.int (p x)) = some (l.map p)
  | [] => rfl
  | x :: r => by
    rw [List.map_cons, List.map_cons]
    simp only [intsOf, intsOf_map p r, Option.map_some]
@[simp] theorem strsOf_map {α : Type} (p : α → Str) : ∀ l : List α, strsOf (l.map fun x => D.str (p x)) = some (l.map p)
  | [] => rfl
  | x :: r => by
    rw [List.map_cons, List.map_cons]
    simp only [strsOf, strsOf_map p r, Option.map_some]
theorem signs_tx (t : List Nat) : signsD (tx t) = t.map fun x => D.str (sg x) := by
  unfold signsD
  rw [tx_list, List.map_map]
  rfl
theorem lcGo_on {α : Type} {f : Elm} {g : α → D} {h : α → D} {S : Store} {l : List α} (hf : ∀ x ∈ l, f (h x) S = some (some (g x), S)) : lcGo f (l.map h) S = some (l.map g, S) := by
  induction l with
  | nil => rfl
  | cons x r ih =>
    rw [List.map_cons, List.map_cons]
    simp only [lcGo, hf x List.mem_cons_self, ih fun y hy => hf y (List.mem_cons_of_mem _ hy)]
theorem lcGo_if {α : Type} {f : Elm} {p : α → Bool} {g : α → D} {h : α → D} {S : Store} {l : List α} (hf : ∀ x ∈ l, f (h x) S = some (if p x then some (g x) else none, S)) : lcGo f (l.map h) S = some ((l.filter p).map g, S) := by
  induction l with
  | nil => rfl
  | cons x r ih =>
    rw [List.map_cons]
    have i := ih fun y hy => hf y (List.mem_cons_of_mem _ hy)
    simp only [lcGo, hf x List.mem_cons_self]
    by_cases hp : p x = true
    · simp [hp, i]
    · simp [hp, i]
theorem range_nD (n : Nat) : rangeD 0 n = (List.range n).map nD := by
  unfold rangeD nD
  simp
@[simp] theorem szOk_s {n : Nat} (h : n ≤ 16000000) : szOk n = true := decide_eq_true h
theorem in_dig {x : Nat} {S : Store} (h : x < 3) : fIn (.val (.str (sg x))) (.val g_DIGITS) S = .ok (.val (.bl true)) S := by
  match x, h with
  | 0, _ => rfl
  | 1, _ => rfl
  | 2, _ => rfl
theorem cs1 (S : Store) : callIn false m_size_of [.val (.int 1)] S = .ok (.val (.int 3)) S := call_val (ds := [.int 1]) rfl rfl
theorem cs2 (S : Store) : callIn false m_size_of [.val (.int 2)] S = .ok (.val (.int 9)) S := call_val (ds := [.int 2]) rfl rfl
theorem cs3 (S : Store) : callIn false m_size_of [.val (.int 3)] S = .ok (.val (.int 27)) S := call_val (ds := [.int 3]) rfl rfl
theorem rg3 : rangeD 0 3 = [.int 0, .int 1, .int 2] := rfl
variable {t : List Nat} {n : Nat}
theorem len3 (h : Tb t n) : fNotIn (.val (.int (t.length : Nat))) (.val (.lst [.int 3, .int 9, .int 27])) = fun S => .ok (.val (.bl false)) S := by
  funext S
  rw [h.len]
  rcases h.cases with e | e | e <;> subst e <;> rfl
theorem c_is_table (h : Tb t n) (S : Store) : m_is_table [.val (.str (tx t))] S = .ok (.val (.bl true)) S := by
  have hz : t.length ≤ 16000000 := by have := h.le; omega
  have key : ∀ (S : Store), lcGo (elm (tgName 1) cYes (cBin fIn (cV 1) (cK g_DIGITS)) [some (.val (.str (tx t))), none, none]) (signsD (tx t)) S = some (t.map fun _ => D.bl true, S) := fun S => by
    rw [signs_tx]
    exact lcGo_on fun x hx => by simp [in_dig (h.dg x hx)]
  unfold m_is_table b_is_table runF
  simp [tx_len, hz, g_MOST_PLACES, rg3, lcGo, cs1, cs2, cs3, len3 h, key]
theorem k_is_table (h : Tb t n) (S : Store) : callIn false m_is_table [.val (.str (tx t))] S = .ok (.val (.bl true)) S := call_val (ds := [.str (tx t)]) rfl (by rw [c_is_table h]; rfl)
theorem k_check (h : Tb t n) (S : Store) : callIn false m_check_table [.val (.str (tx t))] S = .ok (.val .non) S := by
  refine call_val (ds := [.str (tx t)]) rfl ?_
  unfold m_check_table b_check_table runF
  simp [k_is_table h, gives]
theorem c_places (h : Tb t n) (S : Store) : m__law_places [.val (.str (tx t))] S = .ok (.val (nD n)) S := by
  have hz : t.length ≤ 16000000 := by have := h.le; omega
  have key : fIndex (.val (.lst [.int 3, .int 9, .int 27])) [.val (.int (t.length : Nat))] = fun S => .ok (.val (.int ((n - 1 : Nat) : Nat))) S := by
    funext S
    rw [h.len]
    rcases h.cases with e | e | e <;> subst e <;> rfl
  unfold m__law_places b__law_places runF
  simp [tx_len, hz, key]
  have := h.n1
  unfold nD
  congr 2
  omega
theorem eq_int {a b : Int} {S : Store} : fEq (.val (.int a)) (.val (.int b)) S = .ok (.val (.bl (a == b))) S := rfl
theorem c_places_of (h : Tb t n) (S : Store) : m_places_of [.val (.str (tx t))] S = .ok (.val (nD n)) S := by
  have hz : t.length ≤ 16000000 := by have := h.le; omega
  unfold m_places_of b_places_of runF
  rcases h.cases with e | e | e <;> subst e <;> (have hl := h.len; simp [tx_len, hz, g_MOST_PLACES, rg3, lcGo, cs1, cs2, cs3, eq_int, hl, nD])
theorem k_places (h : Tb t n) (S : Store) : callIn false m__law_places [.val (.str (tx t))] S = .ok (.val (nD n)) S := call_val (ds := [.str (tx t)]) rfl (by rw [c_places h]; rfl)
theorem k_places_of (b : Bool) (h : Tb t n) (S : Store) : callIn b m_places_of [.val (.str (tx t))] S = .ok (.val (nD n)) S := by
  have e := call_val (f := m_places_of) (xs := [.val (.str (tx t))]) (ds := [.str (tx t)]) (d := nD n) (S := S) rfl (by rw [c_places_of h]; rfl)
  cases b with
  | false => exact e
  | true => simp [callIn, c_places_of h, back, putAll]
theorem c_P (h : Tb t n) : gives (m_places [.val (.str (tx t))] []) = some (nD n) := by
  unfold m_places b_places runF
  simp [k_check h, k_places_of true h, gives]
theorem isb {x : Nat} (h : x < 3) (S : Store) : callIn false m_is_between [.val (nD x), .val (.int 0), .val (.int 2)] S = .ok (.val (.bl true)) S := by
  match x, h with
  | 0, _ => exact call_val (ds := [nD 0, .int 0, .int 2]) rfl rfl
  | 1, _ => exact call_val (ds := [nD 1, .int 0, .int 2]) rfl rfl
  | 2, _ => exact call_val (ds := [nD 2, .int 0, .int 2]) rfl rfl
theorem k_are (hn : n ≤ 1000) {a : List Nat} (ha : Dg a) (hl : a.length = n) (S : Store) : callIn false m_are_arguments [.val (nD n), .val (tupN a)] S = .ok (.val (.bl true)) S := by
  refine call_val (ds := [nD n, tupN a]) rfl ?_
  have key : ∀ (S : Store), lcGo (elm (tgName 2) cYes (cCall 3 false m_is_between (cCons (cV 2) (cCons (cI 0) (cCons (cI 2) cNil)))) [some (.val (.int (n : Nat))), some (.val (.tup (a.map nD))), none]) (a.map nD) S = some (a.map fun _ => D.bl true, S) := fun S =>
    lcGo_on fun x hx => by simp [isb (ha x hx)]
  unfold m_are_arguments b_are_arguments runF tupN
  have hz : n ≤ 16000000 := by omega
  simp [key, nD, eq_int, hl, gives, hz]
theorem k_value_at (b : Bool) (t a : List Nat) (S : Store) (ht : Dg t) (ha : ix a < t.length) (hl : t.length ≤ 27) : callIn b m_value_at [.val (.str (tx t)), .val (tupN a)] S = .ok (.val (nD (gd t (ix a)))) S := by
  have e := call_val (f := m_value_at) (xs := [.val (.str (tx t)), .val (tupN a)]) (ds := [.str (tx t), tupN a]) (d := nD (gd t (ix a))) (S := S) rfl (by rw [c_value_at t a [] ht ha hl]; rfl)
  cases b with
  | false => exact e
  | true => simp [callIn, c_value_at t a [] ht ha hl, back, putAll]
theorem ix_ok (h : Tb t n) {a : List Nat} (ha : Dg a) (hl : a.length = n) : ix a < t.length := by
  rw [h.len, ← hl]
  exact ix_lt a ha
theorem c_value (h : Tb t n) {a : List Nat} (ha : Dg a) (hl : a.length = n) : gives (m_value [.val (.str (tx t)), .val (tupN a)] []) = some (nD (gd t (ix a))) := by
  unfold m_value b_value runF
  have hn : n ≤ 1000 := by have := h.n3; omega
  simp [k_check h, k_places_of false h, k_are hn ha hl, k_value_at true t a _ h.dg (ix_ok h ha hl) h.le, gives]
theorem allA_ok : ∀ n : Nat, ∀ a ∈ allA n, Dg a ∧ a.length = n
  | 0, a, h => by
    simp only [allA, List.mem_singleton] at h
    subst h
    exact ⟨fun _ h => absurd h List.not_mem_nil, rfl⟩
  | n + 1, a, h => by
    simp only [allA, List.mem_flatMap] at h
    obtain ⟨b, hb, h⟩ := h
    obtain ⟨h1, h2⟩ := allA_ok n b hb
    simp only [List.mem_cons, List.not_mem_nil, or_false] at h
    rcases h with rfl | rfl | rfl
    all_goals
      refine ⟨fun x hx => ?_, by simp [h2]⟩
      rcases List.mem_append.mp hx with hx | hx
      · exact h1 x hx
      · rw [List.mem_singleton.mp hx]; decide
noncomputable def chg (a : List Nat) (k i : Nat) : List Nat := a.take k ++ [i] ++ a.drop (k + 1)
theorem chg_ok {a : List Nat} {k i : Nat} (ha : Dg a) (hk : k < a.length) (hi : i < 3) : Dg (chg a k i) ∧ (chg a k i).length = a.length := by
  unfold chg
  refine ⟨fun x hx => ?_, by simp; omega⟩
  rcases List.mem_append.mp hx with hx | hx
  · rcases List.mem_append.mp hx with hx | hx
    · exact ha x (List.mem_of_mem_take hx)
    · rw [List.mem_singleton.mp hx]; exact hi
  · exact ha x (List.mem_of_mem_drop hx)
noncomputable def vl (t a : List Nat) (k i : Nat) : Nat := gd t (ix (chg a k i))
noncomputable def df (t a : List Nat) (k : Nat) : Bool := !(vl t a k 0 == vl t a k 1 && vl t a k 0 == vl t a k 2)
theorem cutD_lo {a : List Nat} {k : Nat} (h : k ≤ a.length) : cutD (a.map nD) none (some (k : Int)) = (a.take k).map nD := by
  unfold cutD
  rw [HT.sIx_none, HT.sIx_nat, List.length_map, List.drop_zero, Nat.sub_zero, Nat.min_eq_left h, List.map_take]
theorem cutD_hi {a : List Nat} {k : Nat} (h : k + 1 ≤ a.length) : cutD (a.map nD) (some ((k : Int) + 1)) none = (a.drop (k + 1)).map nD := by
  unfold cutD
  rw [HT.sIx_none, show ((k : Int) + 1) = ((k + 1 : Nat) : Int) by omega, HT.sIx_nat, List.length_map, Nat.min_eq_left h, ← List.map_drop, List.take_of_length_le (by simp)]
theorem tup_chg {a : List Nat} {k i : Nat} : D.tup (((a.take k).map nD ++ [nD i]) ++ (a.drop (k + 1)).map nD) = tupN (chg a k i) := by
  unfold tupN chg
  simp
end T3
namespace T3
open PySem PySem.Spec PyProof.Rows L2
variable {t : List Nat} {n : Nat}
/-- a loop that may leave at once -/
theorem forL_any {body : D → CS} {α : Type} {l : List α} {h : α → D} {ρ : Slots} {S : Store} {q : SRes} {x : A} (hq : forL body (l.map h) ρ S = q) (P : Slots → Store → Prop) (p : α → Bool) (h0 : P ρ S)
    (hs : ∀ a ∈ l, ∀ ρ S, P ρ S → (p a = true → ∃ S', body (h a) ρ S = .rt x S') ∧ (p a = false → ∃ ρ' S', body (h a) ρ S = .nx ρ' S' ∧ P ρ' S')) :
    (l.any p = true ∧ ∃ S', q = .rt x S') ∨ (l.any p = false ∧ ∃ ρ' S', q = .nx ρ' S' ∧ P ρ' S') := by
  induction l generalizing ρ S with
  | nil => exact .inr ⟨rfl, ρ, S, hq.symm, h0⟩
  | cons a r ih =>
    rw [List.map_cons] at hq
    simp only [forL] at hq
    obtain ⟨h1, h2⟩ := hs a List.mem_cons_self ρ S h0
    cases hp : p a with
    | true =>
      obtain ⟨S', e⟩ := h1 hp
      rw [e] at hq
      exact .inl ⟨by simp [hp], S', hq.symm⟩
    | false =>
      obtain ⟨ρ', S', e, p'⟩ := h2 hp
      rw [e] at hq
      rcases ih hq p' fun b hb => hs b (List.mem_cons_of_mem _ hb) with h | h
      · exact .inl ⟨by simp [hp, h.1], h.2⟩
      · exact .inr ⟨by simp [hp, h.1], h.2⟩
theorem len_any (a b c : Nat) (ha : a < 3) (hb : b < 3) (hc : c < 3) : decide (1 < ((dedupI [(a : Int), b, c]).length : Int)) = !(a == b && a == c) := by
  have : a = 0 ∨ a = 1 ∨ a = 2 := by omega
  have : b = 0 ∨ b = 1 ∨ b = 2 := by omega
  have : c = 0 ∨ c = 1 ∨ c = 2 := by omega
  rcases ‹a = 0 ∨ _› with rfl | rfl | rfl <;> rcases ‹b = 0 ∨ _› with rfl | rfl | rfl <;> rcases ‹c = 0 ∨ _› with rfl | rfl | rfl <;> rfl
theorem k_args (h : n ≤ 3) (S : Store) : callIn false m_all_arguments [.val (nD n)] S = .ok (.val (lstA n)) S := call_val (ds := [nD n]) rfl (c_args n h)
@[simp] theorem valsOf_app (r : List A) : ∀ ds : List D, valsOf (ds.map A.val ++ r) = (valsOf r).map (ds ++ ·)
  | [] => by cases h : valsOf r <;> simp [h]
  | d :: ds => by
    rw [List.map_cons, List.cons_append]
    simp only [valsOf, valsOf_app r ds]
    cases valsOf r <;> simp
@[simp] theorem valsOf_map (ds : List D) : valsOf (ds.map A.val) = some ds := by
  have := valsOf_app [] ds
  simpa using this
theorem gi {a b : Int} {S : Store} : fGt (.val (.int a)) (.val (.int b)) S = .ok (.val (.bl (decide (b < a)))) S := rfl
theorem c_counts_at (h : Tb t n) {k : Nat} (hk : k < n) : gives (m_counts_at [.val (.str (tx t)), .val (nD k)] []) = some (.bl ((allA n).any fun a => df t a k)) := by
  unfold m_counts_at b_counts_at runF
  simp [k_places_of false h, k_args h.n3, lstA]
  generalize hq : forL _ _ _ _ = q
  have key := forL_any (x := .val (.bl true)) hq (fun ρ S => (∃ z2 z3, ρ = [some (.val (.str (tx t))), some (.val (nD k)), z2, z3, none, none]) ∧ S = []) (fun a => df t a k) ⟨⟨_, _, rfl⟩, rfl⟩ (by
    rintro a ha ρ S ⟨⟨z2, z3, rfl⟩, rfl⟩
    obtain ⟨h1, h2⟩ := allA_ok n a ha
    have hka : k < a.length := by omega
    have hla : a.length ≤ 3 := by have := h.n3; omega
    have hv : ∀ i, i < 3 → ∀ S, callIn false m_value_at [.val (.str (tx t)), .val (tupN (chg a k i))] S = .ok (.val (nD (vl t a k i))) S := fun i hi S => by
      obtain ⟨q1, q2⟩ := chg_ok (i := i) h1 hka hi
      exact k_value_at false t _ S h.dg (ix_ok h q1 (q2.trans h2)) h.le
    have hg : ∀ i, vl t a k i < 3 := fun i => dg_get h.dg _
    have e1 : cutD (a.map nD) none (some (k : Int)) = (a.take k).map nD := cutD_lo (by omega)
    have e2 : cutD (a.map nD) (some ((k : Int) + 1)) none = (a.drop (k + 1)).map nD := cutD_hi (by omega)
    have e3 : ∀ i : Nat, D.tup ((a.take k).map nD ++ D.int (i : Nat) :: (a.drop (k + 1)).map nD) = tupN (chg a k i) := fun i => by
      rw [← tup_chg]
      simp [nD]
    have hs : min k a.length + (a.length - (k + 1) + 1) ≤ 16000000 := by omega
    have e30 : D.tup ((a.take k).map nD ++ D.int 0 :: (a.drop (k + 1)).map nD) = tupN (chg a k 0) := e3 0
    have e31 : D.tup ((a.take k).map nD ++ D.int 1 :: (a.drop (k + 1)).map nD) = tupN (chg a k 1) := e3 1
    have e32 : D.tup ((a.take k).map nD ++ D.int 2 :: (a.drop (k + 1)).map nD) = tupN (chg a k 2) := e3 2
    have e4 : D.tup (a.map nD) = tupN a := rfl
    have e5 := len_any _ _ _ (hg 0) (hg 1) (hg 2)
    simp [nD, ← e4, rg3, lcGo, e1, e2, hs, e30, e31, e32, -List.map_map, -List.map_take, -List.map_drop]
    simp [lcGo, hv, nD, gi, e5, -List.map_map, -List.map_take, -List.map_drop]
    have e6 : (!vl t a k 0 == vl t a k 1 || !vl t a k 0 == vl t a k 2) = df t a k := by simp [df, Bool.not_and]
    rw [e6]
    cases df t a k <;> simp)
  rcases key with ⟨e, S', rfl⟩ | ⟨e, ρ', S', rfl, _⟩ <;> simp [e, gives]
theorem k_counts_at (h : Tb t n) {k : Nat} (hk : k < n) (S : Store) : callIn false m_counts_at [.val (.str (tx t)), .val (nD k)] S = .ok (.val (.bl ((allA n).any fun a => df t a k))) S := call_val (ds := [.str (tx t), nD k]) rfl (c_counts_at h hk)
/-- the places that count -/
noncomputable def cnt (t : List Nat) (n : Nat) : List Nat := (List.range n).filter fun k => (allA n).any fun a => df t a k
theorem c_counting_of (h : Tb t n) (S : Store) : m_counting_of [.val (.str (tx t))] S = .ok (.val (tupN (cnt t n))) S := by
  unfold m_counting_of b_counting_of runF
  have hn : n ≤ 3 := h.n3
  have key : ∀ S, lcGo (elm (tgName 1) (cTru (cCall 2 false m_counts_at (cCons (cV 0) (cCons (cV 1) cNil)))) (cV 1) [some (.val (.str (tx t))), none]) (rangeD 0 n) S = some ((cnt t n).map nD, S) := fun S => by
    rw [range_nD]
    exact lcGo_if (p := fun k => (allA n).any fun a => df t a k) fun k hk => by
      have hk : k < n := List.mem_range.mp hk
      cases hb : (allA n).any fun a => df t a k <;> simp [k_counts_at h hk, hb]
  have hl : (cnt t n).length ≤ 16000000 := by
    have := List.length_filter_le (fun k => (allA n).any fun a => df t a k) (List.range n)
    rw [List.length_range] at this
    unfold cnt
    omega
  have h1 : (-1000000 : Int) ≤ (n : Int) := by omega
  have h2 : (n : Int) ≤ 1000000 := by omega
  simp [k_places_of false h, nD, h1, h2, key, hl, tupN]
theorem k_counting_of (b : Bool) (h : Tb t n) (S : Store) : callIn b m_counting_of [.val (.str (tx t))] S = .ok (.val (tupN (cnt t n))) S := by
  have e := call_val (f := m_counting_of) (xs := [.val (.str (tx t))]) (ds := [.str (tx t)]) (d := tupN (cnt t n)) (S := S) rfl (by rw [c_counting_of h]; rfl)
  cases b with
  | false => exact e
  | true => simp [callIn, c_counting_of h, back, putAll]
theorem c_counting (h : Tb t n) : gives (m_counting [.val (.str (tx t))] []) = some (tupN (cnt t n)) := by
  unfold m_counting b_counting runF
  simp [k_check h, k_counting_of true h, gives]
theorem inD_nD (k : Nat) : ∀ l : List Nat, inD (nD k) (l.map nD) = decide (k ∈ l)
  | [] => rfl
  | x :: r => by
    have ih := inD_nD k r
    unfold inD at ih ⊢
    rw [List.map_cons, List.any_cons, ih]
    have e : dEq (nD x) (nD k) = decide (k = x) := by
      show ((x : Int) == (k : Int)) = _
      by_cases h : k = x
      · simp [h]
      · have : ¬ (x : Int) = (k : Int) := fun z => h (Int.ofNat_inj.mp z).symm
        rw [decide_eq_false h]
        exact beq_eq_false_iff_ne.mpr this
    rw [e]
    simp
theorem flat_nD (l : List Nat) : (l.map nD).all flatD = true := by
  rw [List.all_eq_true]
  intro d hd
  obtain ⟨x, _, rfl⟩ := List.mem_map.mp hd
  rfl
end T3
namespace T3
open PySem PySem.Spec PyProof.Rows L2
variable {t : List Nat} {n : Nat}
theorem eq_str {a b : Str} {S : Store} : fEq (.val (.str a)) (.val (.str b)) S = .ok (.val (.bl (a == b))) S := rfl
theorem ne_str {a b : Str} {S : Store} : fNe (.val (.str a)) (.val (.str b)) S = .ok (.val (.bl (!(a == b)))) S := rfl
theorem sg_eq {a b : Nat} : (sg a == sg b) = (a == b) := by
  rw [Bool.eq_iff_iff, beq_iff_eq, beq_iff_eq]
  simp [sg]
noncomputable def dg3 (t : List Nat) : List Nat := [t.count 0, t.count 1, t.count 2]
theorem filt_len (d : Nat) (t : List Nat) : (t.filter fun x => x == d).length = t.count d := by
  rw [List.count_eq_countP, List.countP_eq_length_filter]
theorem sgD : signsD "012" = [.str (sg 0), .str (sg 1), .str (sg 2)] := by rfl
theorem lc_same (h : Tb t n) (d : Nat) (S : Store) : lcGo (elm (tgName 2) (cBin fEq (cV 2) (cV 1)) (cV 2) [some (.val (.str (tx t))), some (.val (.str (sg d))), none]) (t.map fun x => D.str (sg x)) S = some ((t.filter fun x => x == d).map fun x => D.str (sg x), S) :=
  lcGo_if (p := fun x => x == d) fun x hx => by
    cases hb : x == d <;> simp [eq_str, sg_eq, hb]
theorem c_digits (h : Tb t n) : gives (m_digits_of [.val (.str (tx t))] []) = some (tupN (dg3 t)) := by
  unfold m_digits_of b_digits_of runF
  have hc : ∀ d, t.count d ≤ 16000000 := fun d => by
    have := List.count_le_length (a := d) (l := t)
    have := h.le
    omega
  simp [k_check h, g_DIGITS, sgD, lcGo, signs_tx, lc_same h, filt_len, hc, gives, tupN, dg3, nD]
theorem beq_nat (a b : Nat) : ((a : Int) == (b : Int)) = (a == b) := by
  rw [Bool.eq_iff_iff, beq_iff_eq, beq_iff_eq]
  exact Int.ofNat_inj
noncomputable def fx (t : List Nat) (n : Nat) : List Nat := (List.range 3).filter fun i => gd t (ix (List.replicate n i)) == i
theorem rep_tup (h : Tb t n) (i : Nat) (S : Store) : fMul true (.val (.tup [.int (i : Nat)])) (.val (.int (n : Nat))) S = .ok (.val (tupN (List.replicate n i))) S := by
  rcases h.cases with e | e | e <;> subst e <;> simp [tupN, List.replicate_succ, nD]
theorem dg_rep {i : Nat} (hi : i < 3) : Dg (List.replicate n i) := fun x hx => by
  rw [List.eq_of_mem_replicate hx]
  exact hi
theorem c_fixed (h : Tb t n) : gives (m_fixed [.val (.str (tx t))] []) = some (tupN (fx t n)) := by
  unfold m_fixed b_fixed runF
  have key : ∀ S, lcGo (elm (tgName 2) (cBin fEq (cCall 2 false m_value_at (cCons (cV 0) (cCons (cBin (fMul true) (cTup (cCons (cV 2) cNil)) (cV 1)) cNil))) (cV 2)) (cV 2) [some (.val (.str (tx t))), some (.val (.int (n : Nat))), none]) ((List.range 3).map nD) S = some ((fx t n).map nD, S) := fun S =>
    lcGo_if (p := fun i => gd t (ix (List.replicate n i)) == i) fun i hi => by
      have hi : i < 3 := List.mem_range.mp hi
      have e := k_value_at false t (List.replicate n i) S h.dg (ix_ok h (dg_rep hi) (by simp)) h.le
      cases hb : gd t (ix (List.replicate n i)) == i <;> simp [nD, rep_tup h, e, eq_int, beq_nat, hb]
  have hl : (fx t n).length ≤ 16000000 := by
    have := List.length_filter_le (fun i => gd t (ix (List.replicate n i)) == i) (List.range 3)
    rw [List.length_range] at this
    unfold fx
    omega
  simp [k_check h, k_places_of false h, nD, range_nD, key, hl, gives, tupN]
noncomputable def full (t : List Nat) : Bool := decide (0 ∈ t) && (decide (1 ∈ t) && decide (2 ∈ t))
theorem in_tx (d : Nat) (S : Store) : fIn (.val (.str (sg d))) (.val (.str (tx t))) S = .ok (.val (.bl (decide (d ∈ t)))) S := by
  have e : decide ((sg d).cps.toList.getD 0 0 ∈ (tx t).cps.toList) = decide (d ∈ t) := by
    rw [tx_list]
    simp [sg]
  unfold fIn fInB
  rw [← e]
  rfl
theorem c_full (h : Tb t n) (S : Store) : m_is_full [.val (.str (tx t))] S = .ok (.val (.bl (full t))) S := by
  unfold m_is_full b_is_full runF
  simp [g_DIGITS, sgD, lcGo, in_tx, full]
theorem k_full (b : Bool) (h : Tb t n) (S : Store) : callIn b m_is_full [.val (.str (tx t))] S = .ok (.val (.bl (full t))) S := by
  have e := call_val (f := m_is_full) (xs := [.val (.str (tx t))]) (ds := [.str (tx t)]) (d := .bl (full t)) (S := S) rfl (by rw [c_full h]; rfl)
  cases b with
  | false => exact e
  | true => simp [callIn, c_full h, back, putAll]
theorem c_onto (h : Tb t n) : gives (m_is_onto [.val (.str (tx t))] []) = some (.bl (full t)) := by
  unfold m_is_onto b_is_onto runF
  simp [k_check h, k_full true h, gives]
end T3
namespace T3
open PySem PySem.Spec PyProof.Rows L2
variable {t : List Nat} {n : Nat}
theorem okL_nD : ∀ l : List Nat, dOkL (l.map nD) = true
  | [] => rfl
  | x :: r => by show (true && dOkL (r.map nD)) = true; rw [okL_nD r]; rfl
theorem depL_nD : ∀ l : List Nat, dDepL (l.map nD) = 0
  | [] => rfl
  | x :: r => by show max 0 (dDepL (r.map nD)) = 0; rw [depL_nD r]; rfl
theorem joinL_nil : ∀ l : List Nat, TL.joinL [] (l.map fun x => [48 + x]) = l.map (48 + ·)
  | [] => rfl
  | [x] => rfl
  | x :: y :: r => by
    show [48 + x] ++ ([] ++ TL.joinL [] ((y :: r).map fun x => [48 + x])) = _
    rw [joinL_nil (y :: r)]
    rfl
theorem join_sg (l : List Nat) : Txt.join "" (l.map sg) = tx l := by
  rw [TL.join_eq]
  have h := TL.tl_join "" (l.map sg)
  have e1 : (l.map sg).map TL.tl = l.map fun x => [48 + x] := by
    rw [List.map_map]
    rfl
  have e2 : TL.tl (Str.ofString "") = [] := rfl
  rw [e1, e2, joinL_nil] at h
  have h2 : (Str.join "" (l.map sg)).cps.toList = l.map (48 + ·) := h
  unfold tx
  cases hj : Str.join "" (l.map sg) with
  | mk c =>
    rw [hj] at h2
    congr 1
    rw [← h2]
theorem call_keep1 {f : Fn} {d e1 : D} {S S1 : Store} {i : Nat} {o o' : O} (hi : S[i]? = some o) (ho : flatO o = true) (h : f [.ref 0, .val e1] [o] = .ok (.val d) (o' :: S1)) (ho' : flatO o' = true) (b : Bool) : callIn b f [.ref i, .val e1] S = .ok (.val d) (S.set i o') := by
  unfold callIn
  simp [hi, ho, h, back, ho', putAll]
theorem k_draw (S : Store) (i : Nat) (p q r n : Int) (hi : S[i]? = some (spr p q r)) (h0 : 0 < n) (h1 : n < 1073741824) : ∃ d p' q' r' : Int, 0 ≤ d ∧ d < n ∧ ∀ b, callIn b m__law_draw [.ref i, .val (.int n)] S = .ok (.val (.int d)) (S.set i (spr p' q' r')) := by
  obtain ⟨d, p', q', r', a, b, e⟩ := c_draw p q r n h0 h1
  exact ⟨d, p', q', r', a, b, call_keep1 hi rfl e rfl⟩
theorem c_of (p q r : Int) (ds : List D) (h0 : 0 < ds.length) (h1 : ds.length ≤ 1000) : ∃ d ∈ ds, ∃ p' q' r', m__law_of [.ref 0, .val (.lst ds)] [spr p q r] = .ok (.val d) [spr p' q' r'] := by
  obtain ⟨k, p', q', r', a, b, e⟩ := k_draw [spr p q r] 0 p q r ds.length rfl (by omega) (by omega)
  have hk : k.toNat < ds.length := by omega
  refine ⟨ds[k.toNat], List.getElem_mem _, p', q', r', ?_⟩
  have e2 : ixN ds.length k = some k.toNat := ixN_int a b
  unfold m__law_of b__law_of runF
  simp [e, e2, List.getElem?_eq_getElem hk]
theorem k_of (S : Store) (i : Nat) (p q r : Int) (ds : List D) (hi : S[i]? = some (spr p q r)) (h0 : 0 < ds.length) (h1 : ds.length ≤ 1000) : ∃ d ∈ ds, ∃ p' q' r', ∀ b, callIn b m__law_of [.ref i, .val (.lst ds)] S = .ok (.val d) (S.set i (spr p' q' r')) := by
  obtain ⟨d, hd, p', q', r', e⟩ := c_of p q r ds h0 h1
  exact ⟨d, hd, p', q', r', call_keep1 hi rfl e rfl⟩
noncomputable def unt (s : Str) : List Nat := s.cps.toList.map (· - 48)
noncomputable def tbB (n : Nat) (s : Str) : Bool := (unt s).all (fun x => decide (x < 3)) && decide ((unt s).length = 3 ^ n) && decide (tx (unt s) = s) && decide (1 ≤ n) && decide (n ≤ 3)
theorem tbB_ok {n : Nat} {s : Str} (h : tbB n s = true) : ∃ t, Tb t n ∧ s = tx t := by
  simp only [tbB, Bool.and_eq_true, decide_eq_true_eq, List.all_eq_true] at h
  obtain ⟨⟨⟨⟨h1, h2⟩, h3⟩, h4⟩, h5⟩ := h
  exact ⟨unt s, ⟨fun x hx => h1 x hx, h2, h4, h5⟩, h3.symm⟩
theorem str_sgS {x : Nat} {S : Store} (h : x < 3) : fStr [.val (nD x)] S = .ok (.val (.str (sg x))) S := by
  match x, h with
  | 0, _ => rfl
  | 1, _ => rfl
  | 2, _ => rfl
theorem lc_draw (x1 x2 : Option A) (K : O) (m : Nat) (p q r : Int) : ∃ ds p' q' r', Dg ds ∧ ds.length = m ∧
    lcGo (elm (tgName 3) cYes (cB1 fStr (cCons (cCall 2 false m__law_draw (cCons (cV 0) (cCons (cI 3) cNil))) cNil)) [some (.ref 0), x1, x2, none]) (rangeD 0 m) [spr p q r, K] = some (ds.map fun x => D.str (sg x), [spr p' q' r', K]) := by
  obtain ⟨ys, S', e, ds, p', q', r', rfl, h1, h2, rfl⟩ := lcGo_inv (f := elm (tgName 3) cYes (cB1 fStr (cCons (cCall 2 false m__law_draw (cCons (cV 0) (cCons (cI 3) cNil))) cNil)) [some (.ref 0), x1, x2, none]) (ds := rangeD 0 m) (S := [spr p q r, K])
    (fun i acc S => ∃ (ds : List Nat) (p q r : Int), acc = ds.map (fun x => D.str (sg x)) ∧ Dg ds ∧ ds.length = i ∧ S = [spr p q r, K]) ⟨[], p, q, r, rfl, fun _ h => absurd h List.not_mem_nil, rfl, rfl⟩ (by
    rintro i d acc S hd ⟨ds, p, q, r, rfl, h1, h2, rfl⟩
    obtain ⟨k, p', q', r', a, b, e⟩ := k_draw [spr p q r, K] 0 p q r 3 rfl (by omega) (by omega)
    have ek : D.int k = nD k.toNat := by
      unfold nD
      rw [Int.toNat_of_nonneg a]
    have e3 : ∀ S, fStr [.val (.int k)] S = .ok (.val (.str (sg k.toNat))) S := fun S => by rw [ek]; exact str_sgS (by omega)
    refine ⟨.str (sg k.toNat), [spr p' q' r', K], ?_, ds ++ [k.toNat], p', q', r', by simp, fun x hx => ?_, by simp [h2], rfl⟩
    · simp [e, e3]
    · rcases List.mem_append.mp hx with hx | hx
      · exact h1 x hx
      · rw [List.mem_singleton.mp hx]
        omega)
  rw [range_nD, List.length_map, List.length_range] at h2
  exact ⟨ds, p', q', r', h1, h2, e⟩
theorem sum_one {α : Type} (f : α → Nat) : ∀ l : List α, (∀ x ∈ l, f x = 1) → (l.map f).sum = l.length
  | [], _ => rfl
  | x :: r, h => by
    rw [List.map_cons, List.sum_cons, h x List.mem_cons_self, sum_one f r fun y hy => h y (List.mem_cons_of_mem _ hy), List.length_cons]
    omega
theorem join_ok {l : List Nat} (h : l.length ≤ 1000) (S : Store) : fJoin (.val (.str "")) [.val (.lst (l.map fun x => D.str (sg x)))] S = .ok (.val (.str (tx l))) S := by
  have e : strsOf (l.map fun x => D.str (sg x)) = some (l.map sg) := strsOf_map sg l
  have hz : joinN (l.map sg) + (l.map sg).length * (Str.ofString "").length ≤ 16000000 := by
    have e2 : (Str.ofString "").length = 0 := rfl
    rw [e2]
    unfold joinN
    rw [List.map_map, sum_one ((fun x : Str => x.length) ∘ sg) l fun x _ => rfl]
    omega
  unfold fJoin
  simp only [asL, e]
  rw [if_pos (szOk_s hz), join_sg]
theorem c_table (p q r : Int) (n : Nat) (h1 : 1 ≤ n) (h3 : n ≤ 3) : ∃ t p' q' r' S', Tb t n ∧ m__law_table [.ref 0, .val (nD n)] [spr p q r] = .ok (.val (.str (tx t))) (spr p' q' r' :: S') := by
  have hn : n = 1 ∨ n = 2 ∨ n = 3 := by omega
  unfold m__law_table b__law_table runF
  rcases hn with rfl | rfl | rfl
  · simp [nD]
    generalize hK : O.lst _ = K
    obtain ⟨d, p', q', r', a, b, e⟩ := k_draw [spr p q r, K] 0 p q r 2 rfl (by omega) (by omega)
    rw [e]
    cases hd : d == 0 with
    | true =>
      subst hK
      simp [eq_int, hd]
      generalize hM : ([.str _, .str _, .str _, .str _, .str _, .str _, .str _, .str _, .str _, .str _] : List D) = M
      obtain ⟨m, hm, p2, q2, r2, e2⟩ := k_of [spr p' q' r', O.lst [D.lst M, D.lst [.str "012112222", .str "000011012", .str "012120201", .str "120220000", .str "000111222", .str "012012012", .str "000000012", .str "021102210"]]] 0 p' q' r' M rfl (by subst hM; decide) (by subst hM; decide)
      have hall : ∀ m ∈ M, ∃ s, m = .str s ∧ tbB 1 s = true := by
        subst hM
        simp only [List.forall_mem_cons, List.forall_mem_nil, and_true]
        exact ⟨⟨_, rfl, by decide +kernel⟩, ⟨_, rfl, by decide +kernel⟩, ⟨_, rfl, by decide +kernel⟩, ⟨_, rfl, by decide +kernel⟩, ⟨_, rfl, by decide +kernel⟩, ⟨_, rfl, by decide +kernel⟩, ⟨_, rfl, by decide +kernel⟩, ⟨_, rfl, by decide +kernel⟩, ⟨_, rfl, by decide +kernel⟩, ⟨_, rfl, by decide +kernel⟩, fun _ h => absurd h List.not_mem_nil⟩
      obtain ⟨s, rfl, hs⟩ := hall m hm
      obtain ⟨t, ht, rfl⟩ := tbB_ok hs
      simp [e2]
      exact ⟨t, ht, rfl⟩
    | false =>
      obtain ⟨ds, p2, q2, r2, g1, g2, e2⟩ := lc_draw (some (.val (.int 1))) (some (.ref 1)) K 3 p' q' r'
      simp [eq_int, hd, e2, g2, join_ok]
      exact ⟨ds, ⟨g1, g2, by decide, by decide⟩, rfl⟩
  · simp [nD]
    generalize hK : O.lst _ = K
    obtain ⟨d, p', q', r', a, b, e⟩ := k_draw [spr p q r, K] 0 p q r 2 rfl (by omega) (by omega)
    rw [e]
    cases hd : d == 0 with
    | true =>
      subst hK
      simp [eq_int, hd]
      generalize hM : ([.str _, .str _, .str _, .str _, .str _, .str _, .str _, .str _] : List D) = M
      obtain ⟨m, hm, p2, q2, r2, e2⟩ := k_of [spr p' q' r', O.lst [.lst [.str "012", .str "120", .str "201", .str "210", .str "102", .str "000", .str "111", .str "001", .str "122", .str "020"], D.lst M]] 0 p' q' r' M rfl (by subst hM; decide) (by subst hM; decide)
      have hall : ∀ m ∈ M, ∃ s, m = .str s ∧ tbB 2 s = true := by
        subst hM
        simp only [List.forall_mem_cons, List.forall_mem_nil, and_true]
        exact ⟨⟨_, rfl, by decide +kernel⟩, ⟨_, rfl, by decide +kernel⟩, ⟨_, rfl, by decide +kernel⟩, ⟨_, rfl, by decide +kernel⟩, ⟨_, rfl, by decide +kernel⟩, ⟨_, rfl, by decide +kernel⟩, ⟨_, rfl, by decide +kernel⟩, ⟨_, rfl, by decide +kernel⟩, fun _ h => absurd h List.not_mem_nil⟩
      obtain ⟨s, rfl, hs⟩ := hall m hm
      obtain ⟨t, ht, rfl⟩ := tbB_ok hs
      simp [e2]
      exact ⟨t, ht, rfl⟩
    | false =>
      obtain ⟨ds, p2, q2, r2, g1, g2, e2⟩ := lc_draw (some (.val (.int 2))) (some (.ref 1)) K 9 p' q' r'
      simp [eq_int, hd, e2, g2, join_ok]
      exact ⟨ds, ⟨g1, g2, by decide, by decide⟩, rfl⟩
  · simp [nD]
    generalize hK : O.lst _ = K
    obtain ⟨ds, p2, q2, r2, g1, g2, e2⟩ := lc_draw (some (.val (.int 3))) (some (.ref 1)) K 27 p q r
    simp [e2, g2, join_ok]
    exact ⟨ds, ⟨g1, g2, by decide, by decide⟩, rfl⟩
end T3
namespace T3
open PySem PySem.Spec PyProof.Rows L2
variable {t : List Nat} {n : Nat}
theorem lt_int {a b : Int} {S : Store} : fLt (.val (.int a)) (.val (.int b)) S = .ok (.val (.bl (decide (a < b)))) S := rfl
theorem ge_int {a b : Int} {S : Store} : fGe (.val (.int a)) (.val (.int b)) S = .ok (.val (.bl (decide (b ≤ a)))) S := rfl
theorem c_spring (ns : List Int) (hl : ns.length ≤ 63) (k : Nat) (hk : k ≤ 1000) : ∃ p q : Int, m__law_spring [.val (.ro (ns.map D.int)), .val (nD k)] [] = .ok (.ref 0) [spr p q 0] := by
  unfold m__law_spring b__law_spring runF
  have hm : mulOk 7 (k : Int) = true := mulOk_l (by omega) (by omega)
  have hm2 : mulOk 7919 (k : Int) = true := mulOk_l (by omega) (by omega)
  have hm3 : mulOk 11 (k : Int) = true := mulOk_l (by omega) (by omega)
  have cell : ∀ ρ, ρ = [some (A.val (.ro (ns.map D.int))), some (.val (.int (k : Nat))), none, none, none] → ∃ c : Int, cIf (cBin fLt (cV 1) (cB1 fLen (cCons (cV 0) cNil))) (cBin fIx (cV 0) (cV 1)) (cBin (fAdd true) (cBin (fMul true) (cI 7) (cV 1)) (cI 2)) ρ [] = .ok (.val (.int c)) [] := by
    rintro ρ rfl
    by_cases h : k < ns.length
    · refine ⟨ns[k], ?_⟩
      have e : ixN (ns.map D.int).length (k : Int) = some k := ixN_nat (by simpa using h)
      rw [List.length_map] at e
      simp [lt_int, h, e, List.getElem?_eq_getElem h]
    · refine ⟨7 * k + 2, ?_⟩
      simp [lt_int, h, hm]
  obtain ⟨c, hc⟩ := cell _ rfl
  have hcut : ∃ cs : List Int, cs.length ≤ 63 ∧ cutD (ns.map D.int) none (some 8) = cs.map D.int := by
    refine ⟨(ns.drop (HT.sIx ns.length 0 none)).take (HT.sIx ns.length ns.length (some 8) - HT.sIx ns.length 0 none), ?_, ?_⟩
    · rw [List.length_take, List.length_drop]
      omega
    · unfold cutD
      rw [List.length_map, List.map_take, List.map_drop]
  obtain ⟨cs, hcl, hcs⟩ := hcut
  have hz : cs.length + 1 ≤ 16000000 := by omega
  have hc' := hc
  simp only [List.map_cons, List.map_nil, List.cons_append, List.nil_append, nD, List.length_cons, List.length_nil, List.replicate]
  rw [ap_sSeq, ap_sAsg, hc]
  simp [hm2, hcs, hz]
  have ecs : cs.map D.int ++ [D.int c] = (cs ++ [c]).map D.int := by simp
  rw [ecs]
  generalize hq : forL _ _ _ _ = q
  obtain ⟨ρ', S', rfl, m, z, rfl, rfl⟩ := forL_q hq (fun i ρ S => ∃ (m : Int) (z : Option A), ρ = [some (A.val (D.ro (ns.map D.int))), some (.val (.int (k : Nat))), some (.val (.int c)), some (.val (.int m)), z] ∧ S = []) ⟨_, _, rfl, rfl⟩ (by
    rintro i d ρ S hd ⟨m, z, rfl, rfl⟩
    rw [List.getElem?_map, Option.map_eq_some_iff] at hd
    obtain ⟨x, hx, rfl⟩ := hd
    simp [mulOk_r, hm3])
  by_cases h0 : c < 0
  · simp [lt_int, h0, spr]
  · by_cases h1 : 1000000000000000000 ≤ c
    · simp [lt_int, ge_int, h0, h1, spr]
    · simp [lt_int, ge_int, h0, h1, spr]
theorem k_spring (ns : List Int) (hl : ns.length ≤ 63) (k : Nat) (hk : k ≤ 1000) (S : Store) : ∃ p q : Int, callIn true m__law_spring [.val (.ro (ns.map D.int)), .val (nD k)] S = .ok (.ref S.length) (S ++ [spr p q 0]) := by
  obtain ⟨p, q, e⟩ := c_spring ns hl k hk
  exact ⟨p, q, call_new (ds := [.ro (ns.map D.int), nD k]) rfl e rfl⟩
theorem k_value (h : Tb t n) {a : List Nat} (ha : Dg a) (hl : a.length = n) (S : Store) : callIn false m_value [.val (.str (tx t)), .val (tupN a)] S = .ok (.val (nD (gd t (ix a)))) S := call_val (ds := [.str (tx t), tupN a]) rfl (c_value h ha hl)
theorem k_P (h : Tb t n) (S : Store) : callIn false m_places [.val (.str (tx t))] S = .ok (.val (nD n)) S := call_val (ds := [.str (tx t)]) rfl (c_P h)
theorem k_counting (h : Tb t n) (S : Store) : callIn false m_counting [.val (.str (tx t))] S = .ok (.val (tupN (cnt t n))) S := call_val (ds := [.str (tx t)]) rfl (c_counting h)
theorem k_digits (h : Tb t n) (S : Store) : callIn false m_digits_of [.val (.str (tx t))] S = .ok (.val (tupN (dg3 t))) S := call_val (ds := [.str (tx t)]) rfl (c_digits h)
theorem k_onto (h : Tb t n) (S : Store) : callIn false m_is_onto [.val (.str (tx t))] S = .ok (.val (.bl (full t))) S := call_val (ds := [.str (tx t)]) rfl (c_onto h)
theorem k_fixed (h : Tb t n) (S : Store) : callIn false m_fixed [.val (.str (tx t))] S = .ok (.val (tupN (fx t n))) S := call_val (ds := [.str (tx t)]) rfl (c_fixed h)
theorem k_table (S : Store) (i : Nat) (p q r : Int) (n : Nat) (hi : S[i]? = some (spr p q r)) (h1 : 1 ≤ n) (h3 : n ≤ 3) : ∃ t p' q' r', Tb t n ∧ callIn false m__law_table [.ref i, .val (nD n)] S = .ok (.val (.str (tx t))) (S.set i (spr p' q' r')) := by
  obtain ⟨t, p', q', r', S', h, e⟩ := c_table p q r n h1 h3
  exact ⟨t, p', q', r', h, call_keep1 hi rfl e rfl false⟩
theorem allA_ix {n k : Nat} {a : List Nat} (hn : n ≤ 3) (h : (allA n)[k]? = some a) : ix a = k := by
  have key : ∀ n ≤ 3, ((allA n).map ix) = List.range (3 ^ n) := by decide
  have e := key n hn
  have h2 : ((allA n).map ix)[k]? = some (ix a) := by rw [List.getElem?_map, h]; rfl
  rw [e] at h2
  obtain ⟨hl, e2⟩ := List.getElem?_eq_some_iff.mp h2
  rw [List.getElem_range] at e2
  exact e2.symm
theorem notin_lst (k : Nat) (l : List Nat) (S : Store) : fNotIn (.val (.int (k : Nat))) (.val (.lst (l.map nD))) S = .ok (.val (.bl (!decide (k ∈ l)))) S := by
  have e : fInB (.val (.int (k : Nat))) (.val (.lst (l.map nD))) S = some (decide (k ∈ l)) := by
    show (if (true && (l.map nD).all flatD) = true then some (inD (nD k) (l.map nD)) else _) = _
    rw [flat_nD, inD_nD]
    rfl
  unfold fNotIn
  rw [e]
end T3
namespace T3
open PySem PySem.Spec PyProof.Rows L2
noncomputable def b_check_order : CS := sSeq (sIf (cOr (cNot (cTru (cIsi "tuple" (cV 1)))) (cNot (cTru (cB1 (fAll) (cCons (cLcV true [2] (cV 1) (tgName 2) (cYes) (cCall 3 false m_is_between (cCons (cV 2) (cCons (cI 0) (cCons (cBin fSub (cV 0) (cI 1)) (cNil)))))) (cNil)))))) (sRaiseX 6 "given" (cV 1)) (sNil)) (sIf (cBin fNe (cB1 (fSortI) (cCons (cLcV true [2] (cV 1) (tgName 2) (cYes) (cB1 (fInt) (cCons (cV 2) (cNil)))) (cNil))) (cListR true (cV 0))) (sRaiseX 6 "given" (cV 1)) (sNil))
noncomputable def m_check_order : Fn := runF 3 b_check_order
noncomputable def b_put_in : CS := sSeq (sAsg (tgName 2) (cCall 1 false m_places_of (cCons (cBin fIx (cV 1) (cI 0)) (cNil)))) (sSeq (sAsg (tgName 3) (cLst false (cNil))) (sSeq (sFor (ciV (cCall 1 false m_all_arguments (cCons (cV 2) (cNil)))) (tgName 4) (sExp (cMt tyL fAppend (cV 3) (cCons (cCall 2 false m_value_at (cCons (cV 0) (cCons (cLcV true [5] (cV 1) (tgName 5) (cYes) (cCall 2 false m_value_at (cCons (cV 5) (cCons (cV 4) (cNil))))) (cNil)))) cNil)))) (sRet (cCall 1 true m_table_from (cCons (cV 3) (cNil))))))
noncomputable def m_put_in : Fn := runF 6 b_put_in
noncomputable def b_put_together : CS := sSeq (sExp (cCall 1 false m_check_table (cCons (cV 0) (cNil)))) (sSeq (sIf (cOr (cNot (cTru (cIsi "tuple" (cV 1)))) (cOr (cBin fNe (cB1 (fLen) (cCons (cV 1) (cNil))) (cCall 1 false m_places_of (cCons (cV 0) (cNil)))) (cNot (cTru (cB1 (fAll) (cCons (cLcV true [2] (cV 1) (tgName 2) (cYes) (cCall 1 false m_is_table (cCons (cV 2) (cNil)))) (cNil))))))) (sRaiseX 5 "given" (cV 1)) (sNil)) (sSeq (sIf (cBin fGt (cLenSet (cLcV true [2] (cV 1) (tgName 2) (cYes) (cB1 (fLen) (cCons (cV 2) (cNil))))) (cI 1)) (sRaiseX 5 "given" (cV 1)) (sNil)) (sRet (cCall 2 true m_put_in (cCons (cV 0) (cCons (cV 1) (cNil)))))))
noncomputable def m_put_together : Fn := runF 3 b_put_together
noncomputable def b_turned_round : CS := sSeq (sExp (cCall 1 false m_check_table (cCons (cV 0) (cNil)))) (sSeq (sAsg (tgName 2) (cCall 1 false m_places_of (cCons (cV 0) (cNil)))) (sSeq (sExp (cCall 2 false m_check_order (cCons (cV 2) (cCons (cV 1) (cNil))))) (sSeq (sAsg (tgName 3) (cLc true [4] (ciV (cCall 1 false m_all_arguments (cCons (cV 2) (cNil)))) (tgName 4) (cYes) (cCall 2 false m_value_at (cCons (cV 0) (cCons (cLcV true [5] (cV 1) (tgName 5) (cYes) (cBin fIx (cV 4) (cV 5))) (cNil)))))) (sRet (cCall 1 true m_table_from (cCons (cV 3) (cNil)))))))
noncomputable def m_turned_round : Fn := runF 6 b_turned_round
noncomputable def b_renamed_of : CS := sSeq (sAsg (tgName 2) (cBin (fMul false) (cLst true (cCons (cI 0) (cNil))) (cB1 (fLen) (cCons (cV 0) (cNil))))) (sSeq (sFor (ciV (cCall 1 false m_all_arguments (cCons (cCall 1 false m_places_of (cCons (cV 0) (cNil))) (cNil)))) (tgName 3) (sAsg (tgSub (cV 2) (cCall 1 false m_index_of (cCons (cLcV true [4] (cV 3) (tgName 4) (cYes) (cBin fIx (cV 1) (cV 4))) (cNil)))) (cBin fIx (cV 1) (cCall 2 false m_value_at (cCons (cV 0) (cCons (cV 3) (cNil))))))) (sRet (cCall 1 true m_table_from (cCons (cV 2) (cNil)))))
noncomputable def m_renamed_of : Fn := runF 5 b_renamed_of
noncomputable def b_renamed : CS := sSeq (sExp (cCall 1 false m_check_table (cCons (cV 0) (cNil)))) (sSeq (sExp (cCall 2 false m_check_order (cCons (cI 3) (cCons (cV 1) (cNil))))) (sRet (cCall 2 true m_renamed_of (cCons (cV 0) (cCons (cV 1) (cNil))))))
noncomputable def m_renamed : Fn := runF 2 b_renamed
end T3
namespace T3
open PySem PySem.Spec PyProof.Rows L2
/-- a call whose answer is data -/
theorem call_vb {f : Fn} {xs : List A} {ds : List D} {d : D} {S S1 : Store} (hx : xs = ds.map A.val) (h : f xs [] = .ok (.val d) S1) (b : Bool) : callIn b f xs S = .ok (.val d) S := by
  subst hx
  unfold callIn
  rw [vals_refs, if_pos List.nodup_nil]
  simp only [getAll, List.all_nil, if_true]
  rw [vals_renum, h]
  simp [back, putAll]
theorem lc_runs {f : Fn} (hf : ∀ (S : Store) (i : Nat) (p q r : Int), S[i]? = some (spr p q r) → ∃ p' q' r', callIn false f [.ref i] S = .ok (.val (.bl true)) (S.set i (spr p' q' r')))
    (ns : List Int) (hl : ns.length ≤ 63) (m : Nat) (hm : m ≤ 1000) (v : Nat) (hv : v ≠ 0) (ρ : Slots) (h0 : ρ[0]? = some (some (.val (.ro (ns.map D.int))))) (hvl : v < ρ.length) (S : Store) :
    ∃ S', lcGo (elm (tgName v) cYes (cCall 1 false f (cCons (cCall 2 true m__law_spring (cCons (cV 0) (cCons (cV v) cNil))) cNil)) ρ) (rangeD 0 m) S = some ((List.range m).map (fun _ => D.bl true), S') := by
  obtain ⟨ys, S', e, hy⟩ := lcGo_inv (f := elm (tgName v) cYes (cCall 1 false f (cCons (cCall 2 true m__law_spring (cCons (cV 0) (cCons (cV v) cNil))) cNil)) ρ) (ds := rangeD 0 m) (S := S)
    (fun i acc S => acc = (List.range i).map fun _ => D.bl true) rfl (by
    rintro i d acc S hd rfl
    rw [range_nD] at hd
    obtain ⟨x, hx, rfl⟩ := map_get hd
    obtain ⟨hi, hx2⟩ := List.getElem?_eq_some_iff.mp hx
    rw [List.getElem_range] at hx2
    subst hx2
    rw [List.length_range] at hi
    obtain ⟨p, q, es⟩ := k_spring ns hl i (by omega) S
    obtain ⟨p', q', r', er⟩ := hf (S ++ [spr p q 0]) S.length p q 0 (by simp)
    have es' : callIn true m__law_spring [.val (.ro (ns.map D.int)), .val (.int (i : Nat))] S = .ok (.ref S.length) (S ++ [spr p q 0]) := es
    refine ⟨.bl true, (S ++ [spr p q 0]).set S.length (spr p' q' r'), ?_, by rw [List.range_succ, List.map_append]; rfl⟩
    simp [List.getElem?_set, h0, hv, hvl, nD, es', er])
  refine ⟨S', ?_⟩
  rw [e, hy, range_nD, List.length_map, List.length_range]
theorem runs_n (ns : List Int) (k : Nat) (hk : k ≤ 63) : ∃ m : Nat, m ≤ 63 ∧ (if 2 < (if (k : Int) < (ns.length : Int) then (k : Int) else (ns.length : Int)) then (if (k : Int) < (ns.length : Int) then (k : Int) else (ns.length : Int)) else 2) = (m : Int) := by
  refine ⟨max 2 (min k ns.length), by omega, ?_⟩
  split <;> split <;> omega
end T3
namespace T3.SE
open PySem PySem.Spec PyProof.Rows L2
section
variable {t : List Nat} {n : Nat}
/-- arguments as a list -/
noncomputable def lstN (a : List Nat) : D := .lst (a.map nD)
theorem c_indexL (a : List Nat) (S : Store) : m_index_of [.val (lstN a)] S = .ok (.val (nD (ix a))) S := by
  unfold m_index_of b_index_of runF lstN
  simp
  generalize hq : forL _ _ _ _ = q
  obtain ⟨ρ', S', rfl, z, rfl, rfl⟩ := forL_q hq (fun i ρ S1 => ∃ z, ρ = [some (.val (.lst (a.map nD))), some (.val (nD (ix (a.take i)))), z] ∧ S1 = S) ⟨none, rfl, rfl⟩ (by
    rintro i d ρ S1 hd ⟨z, rfl, rfl⟩
    obtain ⟨x, hx, rfl⟩ := map_get hd
    simp [nD, mul3, ix_take hx])
  simp
theorem k_indexL (a : List Nat) (S : Store) : callIn false m_index_of [.val (lstN a)] S = .ok (.val (nD (ix a))) S := call_val (ds := [lstN a]) rfl (by rw [c_indexL]; rfl)
theorem c_value_atL (t a : List Nat) (S : Store) (ht : Dg t) (ha : ix a < t.length) (hl : t.length ≤ 27) : m_value_at [.val (.str (tx t)), .val (lstN a)] S = .ok (.val (nD (gd t (ix a)))) S := by
  unfold m_value_at b_value_at runF
  have h1 : ∀ S, fIx (.val (.str (tx t))) (.val (nD (ix a))) S = .ok (.val (.str (sg (gd t (ix a))))) S := fun S => ix_tx ha hl
  simp [k_indexL, h1, int_sgS (dg_get ht _)]
theorem k_value_atL (t a : List Nat) (S : Store) (ht : Dg t) (ha : ix a < t.length) (hl : t.length ≤ 27) : callIn false m_value_at [.val (.str (tx t)), .val (lstN a)] S = .ok (.val (nD (gd t (ix a)))) S :=
  call_val (ds := [.str (tx t), lstN a]) rfl (by rw [c_value_atL t a [] ht ha hl]; rfl)
theorem lc_strs (l : List Nat) (hd : Dg l) (ρ : Slots) (hρ : 1 < ρ.length) (S : Store) : lcGo (elm (tgName 1) cYes (cB1 fStr (cCons (cV 1) cNil)) ρ) (l.map nD) S = some (l.map (fun x => D.str (sg x)), S) :=
  lcGo_on fun x hx => by simp [List.getElem?_set, hρ, str_sgS (hd x hx)]
theorem c_from (l : List Nat) (hd : Dg l) (hl : l.length ≤ 27) (S : Store) : m_table_from [.val (lstN l)] S = .ok (.val (.str (tx l))) S := by
  unfold m_table_from b_table_from runF lstN
  have hz : l.length ≤ 16000000 := by omega
  simp [lc_strs l hd, hz, join_ok (show l.length ≤ 1000 by omega)]
theorem c_fromR (l : List Nat) (hd : Dg l) (hl : l.length ≤ 27) (S : Store) (j : Nat) (hS : S[j]? = some (.lst (l.map nD))) : m_table_from [.ref j] S = .ok (.val (.str (tx l))) S := by
  unfold m_table_from b_table_from runF
  have hz : l.length ≤ 16000000 := by omega
  have e : lcR (elm (tgName 1) cYes (cB1 fStr (cCons (cV 1) cNil)) [some (.ref j), none]) j (lenAt S j + 1) 0 S = some (l.map (fun x => D.str (sg x)), S) := by
    rw [lcR_eq hS fun d hd2 => ?_, lc_strs l hd _ (by simp)]
    obtain ⟨x, hx, rfl⟩ := List.mem_map.mp hd2
    exact ⟨some (.str (sg x)), by simp [str_sgS (hd x hx)]⟩
  simp [e, hz, join_ok (show l.length ≤ 1000 by omega)]
theorem k_from (b : Bool) (l : List Nat) (hd : Dg l) (hl : l.length ≤ 27) (S : Store) : callIn b m_table_from [.val (lstN l)] S = .ok (.val (.str (tx l))) S := by
  simp [callIn, c_from l hd hl, back, putAll]
theorem k_fromR (b : Bool) (l : List Nat) (hd : Dg l) (hl : l.length ≤ 27) (S : Store) (j : Nat) (hS : S[j]? = some (.lst (l.map nD))) : callIn b m_table_from [.ref j] S = .ok (.val (.str (tx l))) S := by
  have e := c_fromR l hd hl [.lst (l.map nD)] 0 rfl
  have e2 : S.set j (.lst (l.map nD)) = S := by
    obtain ⟨h1, h2⟩ := List.getElem?_eq_some_iff.mp hS
    rw [← h2]
    exact List.set_getElem_self h1
  simp [callIn, hS, flatO, e, back, putAll, e2]
end
section
variable {t : List Nat} {n : Nat}
noncomputable def prm : Nat → List (List Nat)
  | 1 => [[0]]
  | 2 => [[0, 1], [1, 0]]
  | 3 => [[0, 1, 2], [0, 2, 1], [1, 0, 2], [1, 2, 0], [2, 0, 1], [2, 1, 0]]
  | _ => []
theorem prm_ok : ∀ n ≤ 3, ∀ c ∈ prm n, (c.all fun x => decide (x < n)) = true ∧ c.length = n := by decide
theorem prm_n {c : List Nat} (h : c ∈ prm n) : n = 1 ∨ n = 2 ∨ n = 3 := by
  match n, h with
  | 1, _ => exact .inl rfl
  | 2, _ => exact .inr (.inl rfl)
  | 3, _ => exact .inr (.inr rfl)
theorem prm_lt {c : List Nat} (h : c ∈ prm n) : (∀ x ∈ c, x < n) ∧ c.length = n ∧ n ≤ 3 := by
  have hn : n ≤ 3 := by rcases prm_n h with e | e | e <;> omega
  obtain ⟨h1, h2⟩ := prm_ok n hn c h
  refine ⟨fun x hx => ?_, h2, hn⟩
  have := List.all_eq_true.mp h1 x hx
  exact of_decide_eq_true this
theorem k_order {c : List Nat} (h : c ∈ prm n) (S : Store) : callIn false m_check_order [.val (nD n), .val (tupN c)] S = .ok (.val .non) S := by
  refine call_val (ds := [nD n, tupN c]) rfl ?_
  rcases prm_n h with e | e | e <;> subst e <;> simp only [prm, List.mem_cons, List.not_mem_nil, or_false] at h
  · subst h; rfl
  · rcases h with rfl | rfl <;> rfl
  · rcases h with rfl | rfl | rfl | rfl | rfl | rfl <;> rfl
/-- the opposite order -/
noncomputable def bk (c : List Nat) : List Nat := (List.range c.length).map fun k => c.idxOf k
end
section
variable {t u : List Nat} {n : Nat}
theorem ix_inj0 : ∀ (a b : List Nat) (n m : Nat), Dg a → Dg b → a.length = b.length → a.foldl (fun n x => 3 * n + x) n = b.foldl (fun n x => 3 * n + x) m → n = m ∧ a = b
  | [], [], n, m, _, _, _, h => ⟨h, rfl⟩
  | [], _ :: _, _, _, _, _, h, _ => by simp at h
  | _ :: _, [], _, _, _, _, h, _ => by simp at h
  | x :: r, y :: q, n, m, ha, hb, hl, h => by
    obtain ⟨h1, rfl⟩ := ix_inj0 r q (3 * n + x) (3 * m + y) (fun z hz => ha z (List.mem_cons_of_mem _ hz)) (fun z hz => hb z (List.mem_cons_of_mem _ hz)) (by simpa using hl) h
    have hx := ha x (by simp)
    have hy := hb y (by simp)
    exact ⟨by omega, by rw [show x = y by omega]⟩
theorem ix_inj {a b : List Nat} (ha : Dg a) (hb : Dg b) (hl : a.length = b.length) (h : ix a = ix b) : a = b := (ix_inj0 a b 0 0 ha hb hl h).2
theorem allA_len : ∀ n ≤ 3, (allA n).length = 3 ^ n := by decide
theorem gd_lt {l : List Nat} {k : Nat} (h : k < l.length) : l[k]? = some (gd l k) := by
  unfold gd
  rw [List.getElem?_eq_getElem h]
  rfl
noncomputable def mp (c a : List Nat) : List Nat := a.map (gd c)
theorem prm_gd {c : List Nat} (h : c ∈ prm n) {x : Nat} (hx : x < n) : gd c x < n := by
  obtain ⟨h1, h2, _⟩ := prm_lt h
  exact h1 _ (List.mem_of_getElem? (gd_lt (by omega)))
theorem mp_dg {c : List Nat} (h : c ∈ prm 3) {a : List Nat} (ha : Dg a) : Dg (mp c a) := fun x hx => by
  obtain ⟨y, hy, rfl⟩ := List.mem_map.mp hx
  exact prm_gd h (ha y hy)
theorem mp_len {c a : List Nat} : (mp c a).length = a.length := by simp [mp]
noncomputable def rnF (t c : List Nat) : List (List Nat) → List Nat → List Nat
  | [], acc => acc
  | a :: r, acc => rnF t c r (acc.set (ix (mp c a)) (gd c (gd t (ix a))))
noncomputable def rn (t : List Nat) (n : Nat) (c : List Nat) : List Nat := rnF t c (allA n) (List.replicate (3 ^ n) 0)
theorem rnF_len (t c : List Nat) : ∀ (l : List (List Nat)) (acc : List Nat), (rnF t c l acc).length = acc.length
  | [], _ => rfl
  | a :: r, acc => by rw [rnF, rnF_len t c r, List.length_set]
theorem rnF_dg (ht : Dg t) {c : List Nat} (hc : c ∈ prm 3) : ∀ (l : List (List Nat)) (acc : List Nat), Dg acc → Dg (rnF t c l acc)
  | [], _, h => h
  | a :: r, acc, h => rnF_dg ht hc r _ fun x hx => by
    rcases List.mem_or_eq_of_mem_set hx with hx | rfl
    · exact h x hx
    · exact prm_gd hc (dg_get ht _)
theorem rn_tb (ht : Tb t n) {c : List Nat} (hc : c ∈ prm 3) : Tb (rn t n c) n :=
  ⟨rnF_dg ht.dg hc _ _ fun x hx => by rw [List.eq_of_mem_replicate hx]; decide, by unfold rn; rw [rnF_len, List.length_replicate], ht.n1, ht.n3⟩
theorem allA_in {n : Nat} (hn : n ≤ 3) {a : List Nat} (ha : Dg a) (hl : a.length = n) : a ∈ allA n := by
  have hk : ix a < (allA n).length := by
    rw [allA_len n hn, ← hl]
    exact ix_lt a ha
  have e := List.getElem?_eq_getElem hk
  obtain ⟨h1, h2⟩ := allA_ok n _ (List.getElem_mem hk)
  have h3 := allA_ix hn e
  rw [← ix_inj h1 ha (h2.trans hl.symm) h3]
  exact List.getElem_mem hk
theorem ix_tupN {c : List Nat} {x : Nat} (h : x < c.length) (S : Store) : fIx (.val (tupN c)) (.val (.int (x : Nat))) S = .ok (.val (nD (gd c x))) S := by
  unfold tupN
  have e : ixN c.length (x : Int) = some x := ixN_nat h
  rw [ix_tup', List.length_map, e]
  simp [gd_lt h]
theorem lc_mp {c a : List Nat} (hc : c ∈ prm 3) (ha : Dg a) (i k : Nat) (ρ : Slots) (hρ : k < ρ.length) (hik : k ≠ i) (h1 : ρ[i]? = some (some (.val (tupN c)))) (S : Store) :
    lcGo (elm (tgName k) cYes (cBin fIx (cV i) (cV k)) ρ) (a.map nD) S = some ((mp c a).map nD, S) := by
  have e := lcGo_on (f := elm (tgName k) cYes (cBin fIx (cV i) (cV k)) ρ) (g := fun x => nD (gd c x)) (h := nD) (S := S) (l := a) fun x hx => by
    have hxc : x < c.length := by rw [(prm_lt hc).2.1]; exact ha x hx
    have := ix_tupN hxc S
    simp [List.getElem?_set, hρ, hik, h1, nD, this]
  rw [e]
  unfold mp
  rw [List.map_map]
  rfl
theorem rnF_snoc (t c a : List Nat) : ∀ (l : List (List Nat)) (acc : List Nat), rnF t c (l ++ [a]) acc = (rnF t c l acc).set (ix (mp c a)) (gd c (gd t (ix a)))
  | [], _ => rfl
  | b :: r, acc => rnF_snoc t c a r _
theorem map_set (l : List Nat) (i x : Nat) : (l.map nD).set i (nD x) = (l.set i x).map nD := by rw [List.map_set]
theorem c_renamed_of (ht : Tb t n) {c : List Nat} (hc : c ∈ prm 3) (S0 : Store) (h0 : S0 = []) : m_renamed_of [.val (.str (tx t)), .val (tupN c)] S0 = .ok (.val (.str (tx (rn t n c)))) [.lst ((rn t n c).map nD)] := by
  subst h0
  unfold m_renamed_of b_renamed_of runF
  have hz : t.length ≤ 16000000 := by have := ht.le; omega
  have hp := ht.le
  have hi : (t.length : Int) ≤ 1000000 := by omega
  simp [tx_len, hz, hi, k_places_of false ht, k_args ht.n3, lstA]
  generalize hq : forL _ _ _ _ = q
  obtain ⟨ρ', S', rfl, ⟨z3, rfl⟩, rfl⟩ := forL_q hq (fun i ρ S => (∃ z3, ρ = [some (.val (.str (tx t))), some (.val (tupN c)), some (.ref 0), z3, none]) ∧ S = [.lst ((rnF t c ((allA n).take i) (List.replicate (3 ^ n) 0)).map nD)]) ⟨⟨_, rfl⟩, by simp [rnF, ht.len, nD]⟩ (by
    rintro i d ρ S hd ⟨⟨z3, rfl⟩, rfl⟩
    rw [List.getElem?_map, Option.map_eq_some_iff] at hd
    obtain ⟨a, ha, rfl⟩ := hd
    obtain ⟨g1, g2⟩ := allA_ok n a (List.mem_of_getElem? ha)
    have hm := fun S => lc_mp hc g1 1 4 [some (.val (.str (tx t))), some (.val (tupN c)), some (.ref 0), some (.val (.tup (a.map nD))), none] (by simp) (by decide) rfl S
    have hal : a.length ≤ 16000000 := by have := ht.n3; omega
    have hv := fun S => k_value_at false t a S ht.dg (ix_ok ht g1 g2) ht.le
    have hv' : ∀ S, callIn false m_value_at [.val (.str (tx t)), .val (.tup (a.map nD))] S = .ok (.val (nD (gd t (ix a)))) S := hv
    have hx := fun S => ix_tupN (c := c) (x := gd t (ix a)) (by rw [(prm_lt hc).2.1]; exact dg_get ht.dg _) S
    have hk := fun S => k_indexL (mp c a) S
    have hk' : ∀ S, callIn false m_index_of [.val (.lst ((mp c a).map nD))] S = .ok (.val (nD (ix (mp c a)))) S := hk
    have lt : ix (mp c a) < 3 ^ n := by
      rw [← g2, ← mp_len (c := c) (a := a)]
      exact ix_lt _ (mp_dg hc g1)
    have en : ∀ l : List Nat, l.length = 3 ^ n → ixN l.length ((ix (mp c a) : Nat) : Int) = some (ix (mp c a)) := fun l hl => ixN_nat (by rw [hl]; exact lt)
    have hL : (rnF t c ((allA n).take i) (List.replicate (3 ^ n) 0)).length = 3 ^ n := by rw [rnF_len, List.length_replicate]
    have hT : (allA n).take (i + 1) = (allA n).take i ++ [a] := by
      rw [List.take_add_one, ha]
      rfl
    have hx' : ∀ S, fIx (.val (.tup (c.map nD))) (.val (nD (gd t (ix a)))) S = .ok (.val (nD (gd c (gd t (ix a))))) S := hx
    have hm' : ∀ S, lcGo (elm (tgName 4) cYes (cBin fIx (cV 1) (cV 4)) [some (.val (.str (tx t))), some (.val (.tup (c.map nD))), some (.ref 0), some (.val (.tup (a.map nD))), none]) (a.map nD) S = some ((mp c a).map nD, S) := hm
    rw [hT, rnF_snoc]
    generalize rnF t c ((allA n).take i) (List.replicate (3 ^ n) 0) = L at hL ⊢
    have el : (L.map nD).length = 3 ^ n := by rw [List.length_map, hL]
    have en2 := en L hL
    simp only [tupN]
    simp [hm', hx', hal, hv', hk', mp_len, -List.map_map, -List.map_set]
    simp [nD, en2, -List.map_map, -List.map_set]
    exact ⟨_, ⟨rfl, map_set L _ _⟩, _, rfl⟩)
  have e1 : (allA n).take ((allA n).map tupN).length = allA n := by rw [List.length_map, List.take_length]
  have e2 : rnF t c (allA n) (List.replicate (3 ^ n) 0) = rn t n c := rfl
  have tb := rn_tb ht hc
  have kf := k_fromR true (rn t n c) tb.dg tb.le [.lst ((rn t n c).map nD)] 0 rfl
  rw [e1, e2]
  simp [kf]
theorem k_renamed (b : Bool) (ht : Tb t n) {c : List Nat} (hc : c ∈ prm 3) (S : Store) : callIn b m_renamed [.val (.str (tx t)), .val (tupN c)] S = .ok (.val (.str (tx (rn t n c)))) S := by
  have ho : ∀ S, callIn false m_check_order [.val (.int 3), .val (tupN c)] S = .ok (.val .non) S := fun S => k_order hc S
  have hr : ∀ S, callIn true m_renamed_of [.val (.str (tx t)), .val (tupN c)] S = .ok (.val (.str (tx (rn t n c)))) S := fun S => by
    simp [callIn, c_renamed_of ht hc [] rfl, back, putAll]
  have e : ∀ S, m_renamed [.val (.str (tx t)), .val (tupN c)] S = .ok (.val (.str (tx (rn t n c)))) S := fun S => by
    unfold m_renamed b_renamed runF
    simp [k_check ht, ho, hr]
  simp [callIn, e, back, putAll]
end
section
variable {t : List Nat} {n m : Nat} {ts : List (List Nat)}
noncomputable def strT (u : List Nat) : D := .str (tx u)
noncomputable def tupS (ts : List (List Nat)) : D := .tup (ts.map strT)
noncomputable def ev (ts : List (List Nat)) (a : List Nat) : List Nat := ts.map fun u => gd u (ix a)
noncomputable def pt (t : List Nat) (ts : List (List Nat)) (m : Nat) : List Nat := (allA m).map fun a => gd t (ix (ev ts a))
structure Tbs (ts : List (List Nat)) (n m : Nat) : Prop where
  each : ∀ u ∈ ts, Tb u m
  len : ts.length = n
  m1 : 1 ≤ m
  m3 : m ≤ 3
theorem ev_ok (h : Tbs ts n m) (a : List Nat) : Dg (ev ts a) ∧ (ev ts a).length = n := by
  refine ⟨fun x hx => ?_, by unfold ev; rw [List.length_map, h.len]⟩
  obtain ⟨u, hu, rfl⟩ := List.mem_map.mp hx
  exact dg_get (h.each u hu).dg _
theorem pt_tb (ht : Tb t n) (h : Tbs ts n m) : Tb (pt t ts m) m := by
  refine ⟨fun x hx => ?_, by unfold pt; rw [List.length_map, allA_len m h.m3], h.m1, h.m3⟩
  obtain ⟨a, _, rfl⟩ := List.mem_map.mp hx
  exact dg_get ht.dg _
theorem lc_ev (h : Tbs ts n m) {a : List Nat} (ha : Dg a) (hl : a.length = m) (k j : Nat) (ρ : Slots) (hk : k < ρ.length) (hkj : k ≠ j) (hρ : ρ[j]? = some (some (.val (tupN a)))) (S : Store) :
    lcGo (elm (tgName k) cYes (cCall 2 false m_value_at (cCons (cV k) (cCons (cV j) cNil))) ρ) (ts.map strT) S = some ((ev ts a).map nD, S) := by
  have e := lcGo_on (f := elm (tgName k) cYes (cCall 2 false m_value_at (cCons (cV k) (cCons (cV j) cNil))) ρ) (g := fun u => nD (gd u (ix a))) (h := strT) (S := S) (l := ts) fun u hu => by
    have hT := h.each u hu
    have := k_value_at false u a S hT.dg (ix_ok hT ha hl) hT.le
    simp [List.getElem?_set, hk, hkj, hρ, strT, this]
  rw [e]
  unfold ev
  rw [List.map_map]
  rfl
theorem first_tab (h : Tbs ts n m) (hn : 1 ≤ n) : ∃ u r, ts = u :: r ∧ Tb u m := by
  cases ts with
  | nil => exact absurd h.len (by simp; omega)
  | cons u r => exact ⟨u, r, rfl, h.each u (by simp)⟩
theorem c_put_in (ht : Tb t n) (h : Tbs ts n m) (S0 : Store) (h0 : S0 = []) : m_put_in [.val (.str (tx t)), .val (tupS ts)] S0 = .ok (.val (.str (tx (pt t ts m)))) [.lst ((pt t ts m).map nD)] := by
  subst h0
  unfold m_put_in b_put_in runF tupS
  obtain ⟨u, r, hts, hu⟩ := first_tab h ht.n1
  have e0 : ∀ S, fIx (.val (.tup (ts.map strT))) (.val (.int 0)) S = .ok (.val (.str (tx u))) S := fun S => by
    rw [hts]
    simp [strT]
  simp [e0, k_places_of false hu, k_args h.m3, lstA]
  generalize hq : forL _ _ _ _ = q
  obtain ⟨ρ', S', rfl, ⟨z4, rfl⟩, rfl⟩ := forL_q hq (fun i ρ S => (∃ z4, ρ = [some (.val (.str (tx t))), some (.val (.tup (ts.map strT))), some (.val (nD m)), some (.ref 0), z4, none]) ∧ S = [.lst (((pt t ts m).take i).map nD)]) ⟨⟨_, rfl⟩, by simp⟩ (by
    rintro i d ρ S hd ⟨⟨z4, rfl⟩, rfl⟩
    rw [List.getElem?_map, Option.map_eq_some_iff] at hd
    obtain ⟨a, ha, rfl⟩ := hd
    obtain ⟨g1, g2⟩ := allA_ok m a (List.mem_of_getElem? ha)
    have hm := fun S => lc_ev h g1 g2 5 4 [some (.val (.str (tx t))), some (.val (.tup (ts.map strT))), some (.val (nD m)), some (.ref 0), some (.val (tupN a)), none] (by simp) (by decide) rfl S
    obtain ⟨v1, v2⟩ := ev_ok h a
    have hv := fun S => k_value_atL t (ev ts a) S ht.dg (ix_ok ht v1 v2) ht.le
    have hv' : ∀ S, callIn false m_value_at [.val (.str (tx t)), .val (.lst ((ev ts a).map nD))] S = .ok (.val (nD (gd t (ix (ev ts a))))) S := hv
    have hl : (ev ts a).length ≤ 16000000 := by rw [v2]; have := ht.n3; omega
    have hi : (pt t ts m)[i]? = some (gd t (ix (ev ts a))) := by
      unfold pt
      rw [List.getElem?_map, ha]
      rfl
    have hil : i ≤ 16000000 := by
      have := (List.getElem?_eq_some_iff.mp hi).1
      have := (pt_tb ht h).le
      omega
    have hT : (pt t ts m).take (i + 1) = (pt t ts m).take i ++ [gd t (ix (ev ts a))] := by
      rw [List.take_add_one, hi]
      rfl
    have hmin : min i (pt t ts m).length ≤ 16000000 := by omega
    rw [hT]
    simp [hm, hl, hv', hmin, -List.map_map, -List.map_take])
  have tb := pt_tb ht h
  have kf := k_fromR true (pt t ts m) tb.dg tb.le [.lst ((pt t ts m).map nD)] 0 rfl
  have e1 : (pt t ts m).take ((allA m).map tupN).length = pt t ts m := by
    refine List.take_of_length_le ?_
    rw [tb.len, List.length_map, allA_len m h.m3]
    exact Nat.le_refl _
  rw [e1]
  simp [kf]
theorem c_len_tabs (h : Tbs ts n m) (ρ : Slots) (hρ : 2 < ρ.length) (S : Store) : lcGo (elm (tgName 2) cYes (cB1 fLen (cCons (cV 2) cNil)) ρ) (ts.map strT) S = some (ts.map (fun _ => D.int ((3 ^ m : Nat) : Int)), S) :=
  lcGo_on fun u hu => by
    have hT := h.each u hu
    have hz : 3 ^ m ≤ 16000000 := by rw [← hT.len]; have := hT.le; omega
    simp [List.getElem?_set, hρ, strT, tx_len, hT.len, hz]
theorem dedup_same (x : Int) : ∀ n ≤ 3, decide (1 < ((dedupI (List.replicate n x)).length : Int)) = false := by
  intro n hn
  match n, hn with
  | 0, _ => rfl
  | 1, _ => rfl
  | 2, _ =>
    have : dedupI (List.replicate 2 x) = [x] := by
      simp [dedupI, firstMet, List.replicate_succ, List.range_succ, step_dedup]
    rw [this]
    rfl
  | 3, _ =>
    have : dedupI (List.replicate 3 x) = [x] := by
      simp [dedupI, firstMet, List.replicate_succ, List.range_succ, step_dedup]
    rw [this]
    rfl
theorem k_put_together (b : Bool) (ht : Tb t n) (h : Tbs ts n m) (S : Store) : callIn b m_put_together [.val (.str (tx t)), .val (tupS ts)] S = .ok (.val (.str (tx (pt t ts m)))) S := by
  have hp : ∀ S, callIn true m_put_in [.val (.str (tx t)), .val (.tup (ts.map strT))] S = .ok (.val (.str (tx (pt t ts m)))) S := fun S => by
    have e := c_put_in ht h [] rfl
    unfold tupS at e
    simp [callIn, e, back, putAll]
  have hk : ∀ S, lcGo (elm (tgName 2) cYes (cCall 1 false m_is_table (cCons (cV 2) cNil)) [some (.val (.str (tx t))), some (.val (.tup (ts.map strT))), none]) (ts.map strT) S = some (ts.map (fun _ => D.bl true), S) := fun S =>
    lcGo_on fun u hu => by
      have := k_is_table (h.each u hu) S
      simp [strT, this]
  have hn := ht.n3
  have hz : ts.length ≤ 16000000 := by rw [h.len]; omega
  have hz2 : n ≤ 16000000 := by omega
  have hz3 : n ≤ 1000 := by omega
  have hlen := h.len
  have hd := dedup_same ((3 ^ m : Nat) : Int) n hn
  have hio : intsOf (ts.map fun _ => D.int ((3 ^ m : Nat) : Int)) = some (List.replicate n ((3 ^ m : Nat) : Int)) := by
    rw [intsOf_map (fun _ => ((3 ^ m : Nat) : Int)) ts, ← hlen, List.map_const']
  have ho := fun S => c_len_tabs h [some (.val (.str (tx t))), some (.val (.tup (ts.map strT))), none] (by simp) S
  have hne : ∀ S, fNe (.val (.int (n : Nat))) (.val (nD n)) S = .ok (.val (.bl false)) S := fun S => by
    show Res.ok (.val (.bl (!((n : Int) == (n : Int))))) S = _
    simp
  have e : ∀ S, m_put_together [.val (.str (tx t)), .val (.tup (ts.map strT))] S = .ok (.val (.str (tx (pt t ts m)))) S := fun S => by
    unfold m_put_together b_put_together runF
    have ha : (ts.all fun _ => true) = true := List.all_eq_true.mpr fun _ _ => rfl
    have hd2 : decide (1 < ((dedupI (ts.map fun _ => (3 : Int) ^ m)).length : Int)) = false := by
      rw [List.map_const', hlen]
      exact dedup_same _ n hn
    simp [k_check ht, k_places_of false ht, hlen, hne, hk, hz2, ho, hio, hz3, gi, hd2, hp, ha]
  unfold tupS
  simp [callIn, e, back, putAll]
theorem tx_snoc (l : List Nat) (x : Nat) : tx l ++ sg x = tx (l ++ [x]) := by
  have h : ∀ a b : Str, (a ++ b).cps = a.cps ++ b.cps := fun _ _ => rfl
  cases e : tx l ++ sg x with
  | mk c =>
    have := h (tx l) (sg x)
    rw [e] at this
    have h2 : c = (tx l).cps ++ (sg x).cps := this
    unfold tx
    congr 1
    rw [h2]
    simp [tx, sg]
end
section
variable {t : List Nat} {n m : Nat} {ts : List (List Nat)}
/-- the arguments at the places p -/
noncomputable def pk (p a : List Nat) : List Nat := p.map (gd a)
noncomputable def tr (t : List Nat) (n : Nat) (p : List Nat) : List Nat := (allA n).map fun a => gd t (ix (pk p a))
theorem pk_ok {p : List Nat} (hp : p ∈ prm n) {a : List Nat} (ha : Dg a) (hl : a.length = n) : Dg (pk p a) ∧ (pk p a).length = n := by
  refine ⟨fun x hx => ?_, by unfold pk; rw [List.length_map, (prm_lt hp).2.1]⟩
  obtain ⟨y, hy, rfl⟩ := List.mem_map.mp hx
  exact dg_get ha _
theorem tr_tb (ht : Tb t n) {p : List Nat} (hp : p ∈ prm n) : Tb (tr t n p) n := by
  refine ⟨fun x hx => ?_, by unfold tr; rw [List.length_map, allA_len n ht.n3], ht.n1, ht.n3⟩
  obtain ⟨a, _, rfl⟩ := List.mem_map.mp hx
  exact dg_get ht.dg _
/-- [some[k] for k in p] -/
theorem lc_pk {p a : List Nat} (hp : ∀ x ∈ p, x < a.length) (i k : Nat) (ρ : Slots) (hk : k < ρ.length) (hik : k ≠ i) (h1 : ρ[i]? = some (some (.val (tupN a)))) (S : Store) :
    lcGo (elm (tgName k) cYes (cBin fIx (cV i) (cV k)) ρ) (p.map nD) S = some ((pk p a).map nD, S) := by
  have e := lcGo_on (f := elm (tgName k) cYes (cBin fIx (cV i) (cV k)) ρ) (g := fun x => nD (gd a x)) (h := nD) (S := S) (l := p) fun x hx => by
    have := ix_tupN (hp x hx) S
    simp [List.getElem?_set, hk, hik, h1, nD, this]
  rw [e]
  unfold pk
  rw [List.map_map]
  rfl
theorem k_turned (ht : Tb t n) {p : List Nat} (hp : p ∈ prm n) (S : Store) : callIn false m_turned_round [.val (.str (tx t)), .val (tupN p)] S = .ok (.val (.str (tx (tr t n p)))) S := by
  refine call_val (ds := [.str (tx t), tupN p]) rfl ?_
  unfold m_turned_round b_turned_round runF
  obtain ⟨q1, q2, q3⟩ := prm_lt hp
  have ho := fun S => k_order hp S
  have key : ∀ S, lcGo (elm (tgName 4) cYes (cCall 2 false m_value_at (cCons (cV 0) (cCons (cLcV true [5] (cV 1) (tgName 5) cYes (cBin fIx (cV 4) (cV 5))) cNil))) [some (.val (.str (tx t))), some (.val (.tup (p.map nD))), some (.val (nD n)), none, none, none]) ((allA n).map tupN) S = some ((tr t n p).map nD, S) := fun S => by
    have e := lcGo_on (f := elm (tgName 4) cYes (cCall 2 false m_value_at (cCons (cV 0) (cCons (cLcV true [5] (cV 1) (tgName 5) cYes (cBin fIx (cV 4) (cV 5))) cNil))) [some (.val (.str (tx t))), some (.val (.tup (p.map nD))), some (.val (nD n)), none, none, none])
      (g := fun a => nD (gd t (ix (pk p a)))) (h := tupN) (S := S) (l := allA n) fun a ha => by
      obtain ⟨g1, g2⟩ := allA_ok n a ha
      obtain ⟨v1, v2⟩ := pk_ok hp g1 g2
      have hv : ∀ S, callIn false m_value_at [.val (.str (tx t)), .val (.lst ((pk p a).map nD))] S = .ok (.val (nD (gd t (ix (pk p a))))) S := fun S => k_value_atL t (pk p a) S ht.dg (ix_ok ht v1 v2) ht.le
      have hm := fun S => lc_pk (p := p) (a := a) (fun x hx => by rw [g2]; exact q1 x hx) 4 5 [some (.val (.str (tx t))), some (.val (.tup (p.map nD))), some (.val (nD n)), none, some (.val (tupN a)), none] (by simp) (by decide) rfl S
      have hz : (pk p a).length ≤ 16000000 := by rw [v2]; omega
      simp [hm, hz, hv, -List.map_map]
    rw [e]
    unfold tr
    rw [List.map_map]
    rfl
  have tb := tr_tb ht hp
  have hz : (tr t n p).length ≤ 16000000 := by have := tb.le; omega
  have kf : ∀ S, callIn true m_table_from [.val (.lst ((tr t n p).map nD))] S = .ok (.val (.str (tx (tr t n p)))) S := fun S => k_from true (tr t n p) tb.dg tb.le S
  have ho' : ∀ S, callIn false m_check_order [.val (nD n), .val (.tup (p.map nD))] S = .ok (.val .non) S := ho
  simp [tupN, k_check ht, k_places_of false ht, ho', k_args ht.n3, lstA, gives, -List.map_map]
  rw [key]
  simp [hz, kf, -List.map_map]
end
end T3.SE
namespace T3
open PySem PySem.Spec PyProof.Rows L2
noncomputable def b__law_first : CS := sRet (cBin fIx (cBin (fAdd true) (cLcV true [1] (cV 0) (tgName 1) (cBin fNe (cV 1) (cLst true (cNil))) (cV 1)) (cLst true (cCons (cLst true (cNil)) (cNil)))) (cI 0))
noncomputable def m__law_first : Fn := runF 2 b__law_first
noncomputable def b__law_is_whole : CS := sRet (cAnd (cIsi "int" (cV 0)) (cAnd (cNot (cIsi "bool" (cV 0))) (cChain fLe fLe (cV 1) (cV 0) (cV 2))))
noncomputable def m__law_is_whole : Fn := runF 3 b__law_is_whole
noncomputable def b__law_is_order : CS := sSeq (sIf (cOr (cNot (cTru (cIsi "tuple" (cV 0)))) (cNot (cTru (cB1 (fAll) (cCons (cLcV true [2] (cV 0) (tgName 2) (cYes) (cCall 3 false m__law_is_whole (cCons (cV 2) (cCons (cI 0) (cCons (cBin fSub (cV 1) (cI 1)) (cNil)))))) (cNil)))))) (sRet (cB false)) (sNil)) (sRet (cBin fEq (cB1 (fSortD2) (cCons (cV 0) (cNil))) (cListR true (cV 1))))
noncomputable def m__law_is_order : Fn := runF 3 b__law_is_order
noncomputable def b__law_is_table : CS := sRet (cAnd (cIsi "str" (cV 0)) (cAnd (cBin fIn (cB1 (fLen) (cCons (cV 0) (cNil))) (cLst true (cCons (cI 3) (cCons (cI 9) (cCons (cI 27) (cNil)))))) (cB1 (fAll) (cCons (cLcV true [1] (cV 0) (tgName 1) (cYes) (cBin fIn (cV 1) (cS "012"))) (cNil)))))
noncomputable def m__law_is_table : Fn := runF 2 b__law_is_table
noncomputable def b__law_odd : CS := sSeq (sAsg (tgName 1) (cLst true (cCons (cN) (cCons (cB true) (cCons (cB false) (cCons (cI 0) (cCons (cI 1) (cCons (cUn fNeg (cI 1)) (cCons (cI 7) (cCons (cBin fPow (cI 10) (cI 39)) (cCons (cS "") (cCons (cS "a") (cCons (cS "012") (cCons (cS "0123") (cCons (cS "013") (cCons (cS "set 0") (cCons (cS "set") (cCons (cS "turn") (cCons (cS "up 120") (cNil)))))))))))))))))))) (sSeq (sAsg (tgName 1) (cBin (fAdd true) (cV 1) (cLst true (cCons (cS "up") (cCons (cTup (cNil)) (cCons (cTup (cCons (cI 0) (cNil))) (cCons (cTup (cCons (cI 0) (cCons (cI 1) (cNil)))) (cCons (cTup (cCons (cI 1) (cCons (cI 0) (cNil)))) (cCons (cTup (cCons (cI 0) (cCons (cI 0) (cNil)))) (cCons (cTup (cCons (cB true) (cCons (cI 0) (cNil)))) (cCons (cTup (cCons (cI 0) (cCons (cI 1) (cCons (cI 2) (cNil))))) (cCons (cTup (cCons (cI 2) (cCons (cI 1) (cCons (cI 0) (cNil))))) (cCons (cTup (cCons (cS "012") (cNil))) (cCons (cTup (cCons (cS "up") (cNil))) (cNil))))))))))))))) (sSeq (sAsg (tgName 1) (cBin (fAdd true) (cV 1) (cLst true (cCons (cLst true (cNil)) (cCons (cLst true (cCons (cI 0) (cNil))) (cCons (cLst true (cCons (cS "x") (cNil))) (cCons (cDic0) (cCons (cDicC [("a", 0)]) (cCons (cTup (cCons (cLst true (cNil)) (cNil))) (cCons (cTup (cCons (cN) (cNil))) (cCons (cTup (cCons (cTup (cNil)) (cNil))) (cCons (cTup (cCons (cS "all") (cNil))) (cCons (cTup (cCons (cS "keeps") (cCons (cS "turn") (cNil)))) (cCons (cTup (cCons (cS "makes") (cCons (cS "111") (cNil)))) (cNil))))))))))))))) (sRet (cCall 2 true m__law_of (cCons (cV 0) (cCons (cBin (fAdd true) (cV 1) (cLst true (cCons (cTup (cCons (cS "alike") (cCons (cS "a") (cCons (cS "b") (cNil))))) (cCons (cTup (cCons (cS "a") (cCons (cTup (cCons (cS "all") (cNil))) (cNil)))) (cCons (cTup (cCons (cB true) (cNil))) (cNil)))))) (cNil)))))))
noncomputable def m__law_odd : Fn := runF 2 b__law_odd
noncomputable def b__law_error (i : Nat) : CS := sSeq (sAsg (tgName 1) (cLst true (cCons (cIsX (cV 0) (xIs i 0)) (cCons (cIsX (cV 0) (xIs i 1)) (cCons (cIsX (cV 0) (xIs i 2)) (cNil)))))) (sSeq (sAsg (tgName 1) (cBin (fAdd true) (cV 1) (cLst true (cCons (cIsX (cV 0) (xIs i 3)) (cCons (cIsX (cV 0) (xIs i 4)) (cNil)))))) (sSeq (sAsg (tgName 1) (cBin (fAdd true) (cV 1) (cLst true (cCons (cIsX (cV 0) (xIs i 5)) (cCons (cIsX (cV 0) (xIs i 6)) (cCons (cIsX (cV 0) (xIs i 7)) (cNil))))))) (sSeq (sAsg (tgName 1) (cBin (fAdd true) (cV 1) (cLst true (cCons (cIsX (cV 0) (xIs i 8)) (cCons (cIsX (cV 0) (xIs i 9)) (cCons (cIsX (cV 0) (xIs i 10)) (cNil))))))) (sSeq (sAsg (tgName 1) (cBin (fAdd true) (cV 1) (cLst true (cCons (cIsX (cV 0) (xIs i 11)) (cCons (cIsX (cV 0) (xIs i 12)) (cCons (cIsX (cV 0) (xIs i 13)) (cNil))))))) (sSeq (sAsg (tgName 1) (cBin (fAdd true) (cV 1) (cLst true (cCons (cIsX (cV 0) (xIs i 14)) (cCons (cIsX (cV 0) (xIs i 15)) (cNil)))))) (sSeq (sAsg (tgName 1) (cBin (fAdd true) (cV 1) (cLst true (cCons (cIsX (cV 0) (xIs i 16)) (cCons (cIsX (cV 0) (xIs i 17)) (cCons (cIsX (cV 0) (xIs i 18)) (cNil))))))) (sSeq (sAsg (tgName 1) (cBin (fAdd true) (cV 1) (cLst true (cCons (cIsX (cV 0) (xIs i 19)) (cCons (cIsX (cV 0) (xIs i 20)) (cCons (cIsX (cV 0) (xIs i 21)) (cNil))))))) (sSeq (sAsg (tgName 2) (cLst true (cCons (cS "InvalidText") (cCons (cS "InvalidNumber") (cCons (cS "InvalidTable") (cCons (cS "InvalidWord") (cCons (cS "InvalidArguments") (cCons (cS "InvalidTables") (cNil))))))))) (sSeq (sAsg (tgName 2) (cBin (fAdd true) (cV 2) (cLst true (cCons (cS "InvalidOrder") (cCons (cS "InvalidLot") (cCons (cS "InvalidSheet") (cCons (cS "InvalidName") (cCons (cS "InvalidWish") (cCons (cS "NotABox") (cNil)))))))))) (sSeq (sAsg (tgName 2) (cBin (fAdd true) (cV 2) (cLst true (cCons (cS "InvalidRows") (cCons (cS "InvalidSteps") (cCons (cS "InvalidTold") (cCons (cS "InvalidExchanges") (cCons (cS "InvalidWishes") (cNil))))))))) (sSeq (sAsg (tgName 2) (cBin (fAdd true) (cV 2) (cLst true (cCons (cS "UnknownName") (cCons (cS "InUse") (cCons (cS "TooMany") (cCons (cS "Broken") (cCons (cS "NothingToUndo") (cNil))))))))) (sSeq (sAsg (tgName 3) (cLst true (cCons (cIsX (cV 0) (xIs i 22)) (cCons (cIsX (cV 0) (xIs i 23)) (cCons (cIsX (cV 0) (xIs i 24)) (cNil)))))) (sSeq (sAsg (tgName 4) (cLst true (cCons (cIsX (cV 0) (xIs i 22)) (cCons (cIsX (cV 0) (xIs i 23)) (cCons (cIsX (cV 0) (xIs i 24)) (cNil)))))) (sSeq (sIf (cOr (cBin fNe (cMt tyL fLCnt (cV 1) (cCons (cB true) cNil)) (cI 1)) (cBin fNe (cV 3) (cV 4))) (sRet (cS "")) (sNil)) (sSeq (sAsg (tgName 5) (cMt tyL fIndex (cV 1) (cCons (cB true) cNil))) (sRet (cIf (cBin fEq (cV 3) (cLst true (cCons (cBin fLt (cV 5) (cI 17)) (cCons (cChain fLt fLt (cI 16) (cV 5) (cI 19)) (cCons (cBin fGt (cV 5) (cI 18)) (cNil)))))) (cBin fIx (cV 2) (cV 5)) (cS ""))))))))))))))))))
noncomputable def m__law_error (i : Nat) : Fn := runF 6 (b__law_error i)
noncomputable def b__law_field : CS := sSeq (sIf (cBin fIn (cV 1) (cLst true (cCons (cS "InvalidRows") (cCons (cS "InvalidSteps") (cCons (cS "InvalidTold") (cCons (cS "InvalidExchanges") (cCons (cS "InvalidWishes") (cCons (cS "InUse") (cNil))))))))) (sRet (cFldX "index" (cV 0))) (sNil)) (sSeq (sIf (cBin fEq (cV 1) (cS "Broken")) (sRet (cLst false (cCons (cFldX "index" (cV 0)) (cCons (cFldX "shown" (cV 0)) (cNil))))) (sNil)) (sRet (cIf (cBin fIn (cV 1) (cLst true (cCons (cS "NothingToUndo") (cCons (cS "") (cNil))))) (cN) (cFldX "given" (cV 0)))))
noncomputable def m__law_field : Fn := runF 2 b__law_field
noncomputable def t_law : ErrT := mkErr m__law_error m__law_field [2, 3, 4, 5, 6]
noncomputable def b__law_wrong : CS := sRet (cIf (cTru (cV 0)) (cLst false (cNil)) (cLst false (cCons (cS "error") (cCons (cV 1) (cCons (cB1 (fReprD) (cCons (cV 2) (cNil))) (cNil))))))
noncomputable def m__law_wrong : Fn := runF 3 b__law_wrong
noncomputable def tbl_1 (i : Nat) : Option Fn := if i = 2000 then some m_counting else if i = 2001 then some m_digits_of else if i = 2002 then some m_fixed else if i = 2003 then some m_is_onto else if i = 2004 then some m_places else none
noncomputable def b__law_right : CS := sSeq (sFor (ciR1 (cI 5)) (tgName 1) (sSeq (sAsg (tgName 2) (cCall 2 false m__law_of (cCons (cV 0) (cCons (cLst true (cCons (cI 1) (cCons (cI 2) (cCons (cI 3) (cNil))))) (cNil))))) (sSeq (sAsg (tgName 3) (cCall 2 false m__law_table (cCons (cV 0) (cCons (cV 2) (cNil))))) (sSeq (sAsg (tgName 4) (cCall 2 false m__law_of (cCons (cV 0) (cCons (cLst true (cCons (cV 3) (cCons (cV 3) (cCons (cV 3) (cCons (cBin (fAdd true) (cV 3) (cS "0")) (cCons (cSl true (cV 3) (some (cI 1)) none) (cCons (cBin (fAdd true) (cSl true (cV 3) none (some (cUn fNeg (cI 1)))) (cS "3")) (cCons (cB1 (fList2 true) (cCons (cV 3) (cNil))) (cCons (cCall 1 false m__law_odd (cCons (cV 0) (cNil))) (cNil)))))))))) (cNil))))) (sSeq (sAsg (tgName 2) (cIf (cTru (cCall 1 false m__law_is_table (cCons (cV 4) (cNil)))) (cCall 1 false m__law_places (cCons (cV 4) (cNil))) (cV 2))) (sSeq (sAsg (tgName 5) (cB1 (fTuple) (cCons (cLc true [14] (ciR1 (cV 2)) (tgName 14) (cYes) (cCall 2 false m__law_draw (cCons (cV 0) (cCons (cI 3) (cNil))))) (cNil)))) (sSeq (sAsg (tgName 6) (cLst true (cCons (cV 5) (cCons (cV 5) (cCons (cBin (fAdd true) (cV 5) (cTup (cCons (cI 0) (cNil)))) (cCons (cSl true (cV 5) (some (cI 1)) none) (cCons (cB1 (fList2 true) (cCons (cV 5) (cNil))) (cCons (cBin (fAdd true) (cTup (cCons (cB true) (cNil))) (cSl true (cV 5) (some (cI 1)) none)) (cCons (cBin (fAdd true) (cTup (cCons (cI 3) (cNil))) (cSl true (cV 5) (some (cI 1)) none)) (cCons (cN) (cNil))))))))))) (sSeq (sAsg (tgName 5) (cCall 2 false m__law_of (cCons (cV 0) (cCons (cV 6) (cNil))))) (sSeq (sAsg (tgName 6) (cLst true (cCons (cTup (cCons (cI 0) (cCons (cI 1) (cCons (cI 2) (cNil))))) (cCons (cTup (cCons (cI 2) (cCons (cI 0) (cCons (cI 1) (cNil))))) (cCons (cTup (cCons (cI 0) (cCons (cI 1) (cNil)))) (cCons (cTup (cCons (cI 0) (cCons (cI 0) (cCons (cI 1) (cNil))))) (cCons (cLst true (cCons (cI 0) (cCons (cI 1) (cCons (cI 2) (cNil))))) (cCons (cTup (cCons (cI 1) (cCons (cI 2) (cCons (cI 3) (cNil))))) (cCons (cTup (cCons (cI 0) (cCons (cB true) (cCons (cI 2) (cNil))))) (cCons (cN) (cCons (cTup (cCons (cI 0) (cNil))) (cCons (cTup (cCons (cI 1) (cCons (cI 0) (cNil)))) (cNil))))))))))))) (sSeq (sAsg (tgName 7) (cCall 2 false m__law_of (cCons (cV 0) (cCons (cV 6) (cNil))))) (sSeq (sAsg (tgName 8) (cB1 (fTuple) (cCons (cLc true [14] (ciR1 (cV 2)) (tgName 14) (cYes) (cCall 2 false m__law_table (cCons (cV 0) (cCons (cI 1) (cNil))))) (cNil)))) (sSeq (sAsg (tgName 8) (cCall 2 false m__law_of (cCons (cV 0) (cCons (cLst true (cCons (cV 8) (cCons (cV 8) (cCons (cSl true (cV 8) (some (cI 1)) none) (cCons (cB1 (fList2 true) (cCons (cV 8) (cNil))) (cCons (cBin (fAdd true) (cSl true (cV 8) none (some (cUn fNeg (cI 1)))) (cTup (cCons (cS "000000000") (cNil)))) (cCons (cBin (fAdd true) (cSl true (cV 8) none (some (cUn fNeg (cI 1)))) (cTup (cCons (cS "0123") (cNil)))) (cCons (cN) (cNil))))))))) (cNil))))) (sSeq (sAsg (tgName 9) (cCall 3 false m__law_wrong (cCons (cCall 1 false m__law_is_table (cCons (cV 4) (cNil))) (cCons (cS "InvalidTable") (cCons (cV 4) (cNil)))))) (sSeq (sAsg (tgName 10) (cAnd (cIsi "tuple" (cV 5)) (cAnd (cBin fEq (cB1 (fLen) (cCons (cV 5) (cNil))) (cV 2)) (cB1 (fAll) (cCons (cLcV true [16] (cV 5) (tgName 16) (cYes) (cCall 3 false m__law_is_whole (cCons (cV 16) (cCons (cI 0) (cCons (cI 2) (cNil)))))) (cNil)))))) (sSeq (sAsg (tgName 11) (cAnd (cIsi "tuple" (cV 8)) (cAnd (cBin fEq (cB1 (fLen) (cCons (cV 8) (cNil))) (cV 2)) (cB1 (fAll) (cCons (cLcV true [16] (cV 8) (tgName 16) (cYes) (cCall 1 false m__law_is_table (cCons (cV 16) (cNil)))) (cNil)))))) (sSeq (sAsg (tgName 11) (cAnd (cV 11) (cB1 (fAll) (cCons (cLcV true [16] (cV 8) (tgName 16) (cYes) (cBin fEq (cB1 (fLen) (cCons (cV 16) (cNil))) (cB1 (fLen) (cCons (cBin fIx (cV 8) (cI 0)) (cNil))))) (cNil))))) (sSeq (sAsg (tgName 12) (cLc false [15] (ciV (cLst true (cCons (cK (defD 2000)) (cCons (cK (defD 2001)) (cCons (cK (defD 2002)) (cCons (cK (defD 2003)) (cCons (cK (defD 2004)) (cNil)))))))) (tgName 15) (cYes) (cTold t_law (cCallV tbl_1 1 false (cV 15) (cCons (cV 4) (cNil)))))) (sSeq (sExp (cMt tyL fAppend (cV 12) (cCons (cTold t_law (cCall 2 false m_value (cCons (cV 4) (cCons (cV 5) (cNil))))) cNil))) (sSeq (sExp (cMt tyL fAppend (cV 12) (cCons (cTold t_law (cCall 2 false m_renamed (cCons (cV 4) (cCons (cV 7) (cNil))))) cNil))) (sSeq (sExp (cMt tyL fAppend (cV 12) (cCons (cTold t_law (cCall 2 false m_turned_round (cCons (cV 4) (cCons (cV 7) (cNil))))) cNil))) (sSeq (sExp (cMt tyL fAppend (cV 12) (cCons (cTold t_law (cCall 2 false m_put_together (cCons (cV 4) (cCons (cV 8) (cNil))))) cNil))) (sSeq (sAsg (tgName 13) (cBin (fAdd false) (cBin (fMul true) (cLst true (cCons (cV 9) (cNil))) (cI 5)) (cLst true (cCons (cCall 1 false m__law_first (cCons (cLst true (cCons (cV 9) (cCons (cCall 3 false m__law_wrong (cCons (cV 10) (cCons (cS "InvalidArguments") (cCons (cV 5) (cNil))))) (cNil)))) (cNil))) (cNil))))) (sSeq (sExp (cMt tyL fAppend (cV 13) (cCons (cCall 1 false m__law_first (cCons (cLst true (cCons (cV 9) (cCons (cCall 3 false m__law_wrong (cCons (cCall 2 false m__law_is_order (cCons (cV 7) (cCons (cI 3) (cNil)))) (cCons (cS "InvalidOrder") (cCons (cV 7) (cNil))))) (cNil)))) (cNil))) cNil))) (sSeq (sExp (cMt tyL fAppend (cV 13) (cCons (cCall 1 false m__law_first (cCons (cLst true (cCons (cV 9) (cCons (cCall 3 false m__law_wrong (cCons (cCall 2 false m__law_is_order (cCons (cV 7) (cCons (cV 2) (cNil)))) (cCons (cS "InvalidOrder") (cCons (cV 7) (cNil))))) (cNil)))) (cNil))) cNil))) (sSeq (sExp (cMt tyL fAppend (cV 13) (cCons (cCall 1 false m__law_first (cCons (cLst true (cCons (cV 9) (cCons (cCall 3 false m__law_wrong (cCons (cV 11) (cCons (cS "InvalidTables") (cCons (cV 8) (cNil))))) (cNil)))) (cNil))) cNil))) (sFor (ciR1 (cI 9)) (tgName 14) (sIf (cAnd (cBin fNe (cBin fIx (cV 12) (cV 14)) (cBin fIx (cV 13) (cV 14))) (cOr (cBin fNe (cBin fIx (cV 13) (cV 14)) (cLst true (cNil))) (cBin fNe (cBin fIx (cBin fIx (cV 12) (cV 14)) (cI 0)) (cS "told")))) (sRet (cB false)) (sNil)))))))))))))))))))))))))))) (sRet (cB true))
noncomputable def m__law_right : Fn := runF 17 b__law_right
noncomputable def b_law : CS := sRet (cB1 (fAll) (cCons (cLc true [1] (ciR1 (cB1 (fMax2) (cCons (cI 2) (cCons (cB1 (fMin2) (cCons (cB1 (fLen) (cCons (cV 0) (cNil))) (cCons (cI 6) (cNil)))) (cNil))))) (tgName 1) (cYes) (cCall 1 false m__law_right (cCons (cCall 2 true m__law_spring (cCons (cV 0) (cCons (cV 1) (cNil)))) (cNil)))) (cNil)))
noncomputable def m_law : Fn := runF 2 b_law
end T3
namespace T3
open PySem PySem.Spec PyProof.Rows L2
variable {s t : List Nat} {n : Nat}
/-- data of which the type can be asked -/
noncomputable def tyB : D → Bool
  | .str x => decide (x.length ≤ 1000)
  | .ins _ _ _ => false
  | .wt _ => false
  | _ => true
noncomputable def wholeB (lo hi : Int) : D → Bool
  | .int i => decide (lo ≤ i) && decide (i ≤ hi)
  | _ => false
noncomputable def sgnB (c : Nat) : Bool := decide (c ∈ [48, 49, 50])
noncomputable def l3 (k : Nat) : Bool := decide (k ∈ [3, 9, 27])
noncomputable def isTs (x : Str) : Bool := l3 x.length && x.cps.toList.all sgnB
noncomputable def isTb : D → Bool
  | .str x => isTs x
  | _ => false
theorem in_sgn (c : Nat) (S : Store) : fIn (.val (.str ⟨#[c]⟩)) (.val (.str "012")) S = .ok (.val (.bl (sgnB c))) S := by
  unfold fIn fInB
  rfl
theorem signs_any (x : Str) : signsD x = x.cps.toList.map fun c => D.str ⟨#[c]⟩ := by
  unfold signsD
  first | rfl | simp
theorem k_whole {d : D} (h : tyB d = true) (lo hi : Int) (S : Store) : callIn false m__law_is_whole [.val d, .val (.int lo), .val (.int hi)] S = .ok (.val (.bl (wholeB lo hi d))) S := by
  refine call_vb (ds := [d, .int lo, .int hi]) (S1 := []) rfl ?_ false
  unfold m__law_is_whole b__law_is_whole runF
  cases d with
  | ins _ _ _ => cases h
  | wt _ => cases h
  | int i =>
    simp [tyD, subT, wholeB]
    by_cases h1 : lo ≤ i <;> simp [h1]
  | _ => simp [tyD, subT, wholeB]
theorem k_betw {d : D} (h : tyB d = true) (lo hi : Int) (S : Store) : callIn false m_is_between [.val d, .val (.int lo), .val (.int hi)] S = .ok (.val (.bl (wholeB lo hi d))) S := by
  have e : ∀ S, callIn false m_is_integer [.val d] S = .ok (.val (.bl (match d with | .int _ => true | _ => false))) S := fun S => by
    refine call_vb (ds := [d]) (S1 := []) rfl ?_ false
    unfold m_is_integer b_is_integer runF
    cases d with
    | ins _ _ _ => cases h
    | wt _ => cases h
    | _ => simp [tyD, subT]
  refine call_vb (ds := [d, .int lo, .int hi]) (S1 := []) rfl ?_ false
  unfold m_is_between b_is_between runF
  cases d with
  | ins _ _ _ => cases h
  | wt _ => cases h
  | int i =>
    simp [e, wholeB]
    by_cases h1 : lo ≤ i <;> simp [h1]
  | _ => simp [e, wholeB]
theorem in_lst (k : Nat) (l : List Nat) (S : Store) : fIn (.val (.int (k : Nat))) (.val (.lst (l.map nD))) S = .ok (.val (.bl (decide (k ∈ l)))) S := by
  have e : fInB (.val (.int (k : Nat))) (.val (.lst (l.map nD))) S = some (decide (k ∈ l)) := by
    show (if (true && (l.map nD).all flatD) = true then some (inD (nD k) (l.map nD)) else _) = _
    rw [flat_nD, inD_nD]
    rfl
  unfold fIn
  rw [e]
theorem lens_in (k : Nat) (S : Store) : fIn (.val (.int (k : Nat))) (.val (.lst [.int 3, .int 9, .int 27])) S = .ok (.val (.bl (l3 k))) S := in_lst k [3, 9, 27] S
theorem lens_notin (k : Nat) (S : Store) : fNotIn (.val (.int (k : Nat))) (.val (.lst [.int 3, .int 9, .int 27])) S = .ok (.val (.bl (!l3 k))) S := notin_lst k [3, 9, 27] S
theorem all_bools {α : Type} (p : α → Bool) (l : List α) (S : Store) : fAll [.val (.lst (l.map fun x => D.bl (p x)))] S = .ok (.val (.bl (l.all p))) S := by
  rw [all_lst, boolsOf_map p]
  simp [List.all_map]
theorem k_isT {d : D} (h : tyB d = true) (S : Store) : callIn false m_is_table [.val d] S = .ok (.val (.bl (isTb d))) S := by
  refine call_vb (ds := [d]) (S1 := []) rfl ?_ false
  unfold m_is_table b_is_table runF
  cases d with
  | ins _ _ _ => cases h
  | wt _ => cases h
  | str x =>
    have hx : x.length ≤ 1000 := of_decide_eq_true h
    have z0 : szOk x.length = true := szOk_le hx
    cases hl : l3 x.length with
    | true =>
      have key : ∀ (S : Store), lcGo (elm (tgName 1) cYes (cBin fIn (cV 1) (cK g_DIGITS)) [some (.val (.str x)), none, none]) (signsD x) S = some (x.cps.toList.map fun c => D.bl (sgnB c), S) := fun S => by
        rw [signs_any]
        exact lcGo_on fun c hc => by simp [in_sgn, g_DIGITS]
      have z1 : szOk x.cps.size = true := szOk_le hx
      have ha := fun S => all_bools sgnB x.cps.toList S
      simp [tyD, subT, isTb, isTs, g_MOST_PLACES, rg3, lcGo, cs1, cs2, cs3, lens_notin, z0, hl, key, z1, ha]
    | false => simp [tyD, subT, isTb, isTs, g_MOST_PLACES, rg3, lcGo, cs1, cs2, cs3, lens_notin, z0, hl]
  | _ => simp [tyD, subT, isTb]
theorem k_lawT {d : D} (h : tyB d = true) (S : Store) : callIn false m__law_is_table [.val d] S = .ok (.val (.bl (isTb d))) S := by
  refine call_vb (ds := [d]) (S1 := []) rfl ?_ false
  unfold m__law_is_table b__law_is_table runF
  cases d with
  | ins _ _ _ => cases h
  | wt _ => cases h
  | str x =>
    have hx : x.length ≤ 1000 := of_decide_eq_true h
    have z0 : szOk x.length = true := szOk_le hx
    cases hl : l3 x.length with
    | true =>
      have key : ∀ (S : Store), lcGo (elm (tgName 1) cYes (cBin fIn (cV 1) (cS "012")) [some (.val (.str x)), none]) (signsD x) S = some (x.cps.toList.map fun c => D.bl (sgnB c), S) := fun S => by
        rw [signs_any]
        exact lcGo_on fun c hc => by simp [in_sgn]
      have z1 : szOk x.cps.size = true := szOk_le hx
      have ha := fun S => all_bools sgnB x.cps.toList S
      simp [tyD, subT, isTb, isTs, lens_in, z0, hl, key, z1, ha]
    | false => simp [tyD, subT, isTb, isTs, lens_in, z0, hl]
  | _ => simp [tyD, subT, isTb]
/-- a text that is a table -/
theorem isTs_ok {x : Str} (h : isTs x = true) : ∃ t n, Tb t n ∧ x = tx t := by
  unfold isTs at h
  unfold l3 at h
  rw [Bool.and_eq_true, decide_eq_true_eq, List.all_eq_true] at h
  obtain ⟨h1, h2⟩ := h
  have hl : x.cps.toList.length = x.length := by simp [Str.length]
  have hd : ∀ c ∈ x.cps.toList, c = 48 ∨ c = 49 ∨ c = 50 := fun c hc => by
    have := h2 c hc
    unfold sgnB at this
    simpa using this
  have e : x = tx (x.cps.toList.map (· - 48)) := by
    unfold tx
    rw [List.map_map]
    have : x.cps.toList.map ((fun d => 48 + d) ∘ fun c => c - 48) = x.cps.toList := by
      conv => rhs; rw [← List.map_id x.cps.toList]
      refine List.map_congr_left fun c hc => ?_
      have := hd c hc
      show 48 + (c - 48) = c
      omega
    rw [this]
  have hdg : Dg (x.cps.toList.map (· - 48)) := fun y hy => by
    obtain ⟨c, hc, rfl⟩ := List.mem_map.mp hy
    have := hd c hc
    omega
  have hlen : (x.cps.toList.map (· - 48)).length = x.length := by rw [List.length_map, hl]
  simp at h1
  rcases h1 with h1 | h1 | h1
  · exact ⟨_, 1, ⟨hdg, by rw [hlen, h1], by decide, by decide⟩, e⟩
  · exact ⟨_, 2, ⟨hdg, by rw [hlen, h1], by decide, by decide⟩, e⟩
  · exact ⟨_, 3, ⟨hdg, by rw [hlen, h1], by decide, by decide⟩, e⟩
theorem isTb_ok {d : D} (h : isTb d = true) : ∃ t n, Tb t n ∧ d = .str (tx t) := by
  cases d with
  | str x =>
    obtain ⟨t, n, h1, h2⟩ := isTs_ok h
    exact ⟨t, n, h1, by rw [h2]⟩
  | _ => cases h
theorem call_exc {f : Fn} {xs : List A} {ds : List D} {e : X0} {S S1 : Store} (hx : xs = ds.map A.val) (h : f xs [] = .exc e S1) (b : Bool) : callIn b f xs S = .exc e S := by
  subst hx
  unfold callIn
  rw [vals_refs, if_pos List.nodup_nil]
  simp only [getAll, List.all_nil, if_true]
  rw [vals_renum, h]
  simp [back, putAll]
/-- the error of a wrong table -/
theorem k_bad {d : D} (h : tyB d = true) (hb : isTb d = false) (S : Store) : callIn false m_check_table [.val d] S = .exc ⟨2, ["given"], [d]⟩ S := by
  refine call_exc (ds := [d]) (S1 := []) rfl ?_ false
  unfold m_check_table b_check_table runF
  have e := fun S => k_isT h S
  rw [hb] at e
  simp [e, sRaiseX]
end T3
namespace T3
open PySem PySem.Spec PyProof.Rows L2
variable {s t : List Nat} {n : Nat}
theorem mE2 (d : D) : callIn false (m__law_error 2) [.val (.ins 1000 ["given"] [d])] [] = .ok (.val (.str "InvalidTable")) [] := by kernel_rfl
theorem mE4 (d : D) : callIn false (m__law_error 4) [.val (.ins 1000 ["given"] [d])] [] = .ok (.val (.str "InvalidArguments")) [] := by kernel_rfl
theorem mE5 (d : D) : callIn false (m__law_error 5) [.val (.ins 1000 ["given"] [d])] [] = .ok (.val (.str "InvalidTables")) [] := by kernel_rfl
theorem mE6 (d : D) : callIn false (m__law_error 6) [.val (.ins 1000 ["given"] [d])] [] = .ok (.val (.str "InvalidOrder")) [] := by kernel_rfl
theorem mF2 (d : D) : callIn false m__law_field [.val (.ins 1000 ["given"] [d]), .val (.str "InvalidTable")] [] = .ok (.val d) [] := by kernel_rfl
theorem mF4 (d : D) : callIn false m__law_field [.val (.ins 1000 ["given"] [d]), .val (.str "InvalidArguments")] [] = .ok (.val d) [] := by kernel_rfl
theorem mF5 (d : D) : callIn false m__law_field [.val (.ins 1000 ["given"] [d]), .val (.str "InvalidTables")] [] = .ok (.val d) [] := by kernel_rfl
theorem mF6 (d : D) : callIn false m__law_field [.val (.ins 1000 ["given"] [d]), .val (.str "InvalidOrder")] [] = .ok (.val d) [] := by kernel_rfl
noncomputable def wordOf (i : Nat) : Str := if i = 2 then "InvalidTable" else if i = 4 then "InvalidArguments" else if i = 5 then "InvalidTables" else "InvalidOrder"
/-- it has a repr, and no instance -/
noncomputable def rpB (d : D) : Bool := nIns d && (match fReprD [.val d] [] with
  | .ok (.val (.str r)) [] => PyData.strOk r
  | _ => false)
noncomputable def rpOf (d : D) : Str := match fReprD [.val d] [] with
  | .ok (.val (.str r)) [] => r
  | _ => ""
theorem rp_ok' {d : D} (h : rpB d = true) : nIns d = true ∧ fReprD [.val d] [] = .ok (.val (.str (rpOf d))) [] ∧ PyData.strOk (rpOf d) = true := by
  unfold rpB at h
  rw [Bool.and_eq_true] at h
  refine ⟨h.1, ?_⟩
  have h2 := h.2
  unfold rpOf
  split at h2
  · rename_i r e
    rw [e]
    exact ⟨rfl, h2⟩
  · cases h2
theorem repr_st0 (d : D) (S : Store) : fRepr [.val d] S = (match fRepr [.val d] [] with
    | .ok x _ => .ok x S
    | .exc e _ => .exc e S
    | .bad => .bad) := by
  show (if rpOk d then Res.ok (.val (.str (rp d))) S else .bad) = (match (if rpOk d then Res.ok (.val (.str (rp d))) [] else .bad) with
    | .ok x _ => .ok x S
    | .exc e _ => .exc e S
    | .bad => .bad)
  split <;> rfl
theorem repr_st (d : D) (S : Store) : fReprD [.val d] S = (match fReprD [.val d] [] with
    | .ok x _ => .ok x S
    | .exc e _ => .exc e S
    | .bad => .bad) := by
  cases d with
  | dic ks ds =>
    show (match strsK ks, intsOf ds with
      | some ss, some is => if ss.length == is.length && (siP (ss.zip is)).showable && decide ((siP (ss.zip is)).depth ≤ 60) && szOk (siP (ss.zip is)).shown.length then Res.ok (.val (.str (siP (ss.zip is)).shown)) S else .bad
      | _, _ => .bad) = (match (match strsK ks, intsOf ds with
      | some ss, some is => if ss.length == is.length && (siP (ss.zip is)).showable && decide ((siP (ss.zip is)).depth ≤ 60) && szOk (siP (ss.zip is)).shown.length then Res.ok (.val (.str (siP (ss.zip is)).shown)) [] else .bad
      | _, _ => .bad) with
      | .ok x _ => .ok x S
      | .exc e _ => .exc e S
      | .bad => .bad)
    cases strsK ks with
    | none => rfl
    | some ss =>
      cases intsOf ds with
      | none => rfl
      | some is =>
        dsimp only
        split <;> rfl
  | non => exact repr_st0 .non S
  | bl b => exact repr_st0 (.bl b) S
  | wt x => exact repr_st0 (.wt x) S
  | ins c ns vs => exact repr_st0 (.ins c ns vs) S
  | _ => exact repr_st0 _ S
theorem repr_any {d : D} (h : rpB d = true) (S : Store) : fReprD [.val d] S = .ok (.val (.str (rpOf d))) S := by
  rw [repr_st, (rp_ok' h).2.1]
theorem tbl_any {i : Nat} {d : D} (hi : i ∈ [2, 4, 5, 6]) (h : rpB d = true) : t_law.tbl ⟨i, ["given"], [d]⟩ = some (wordOf i, rpOf d) := by
  obtain ⟨h1, h2, _⟩ := rp_ok' h
  have hn : nInsL [d] = true := by simp [nInsL, h1]
  have e0 : ("error" : Str) == "error" := rfl
  simp only [List.mem_cons, List.not_mem_nil, or_false] at hi
  rcases hi with rfl | rfl | rfl | rfl
  · simp [t_law, mkErr, hn, bSuite, mE2, mF2, h2, wordOf]
  · simp [t_law, mkErr, hn, bSuite, mE4, mF4, h2, wordOf]
  · simp [t_law, mkErr, hn, bSuite, mE5, mF5, h2, wordOf]
  · simp [t_law, mkErr, hn, bSuite, mE6, mF6, h2, wordOf]
noncomputable def isNilD : D → Bool
  | .lst [] => true
  | _ => false
theorem isNil_eq : ∀ {d : D}, isNilD d = true → d = .lst []
  | .lst [], _ => rfl
/-- told -/
noncomputable def toldR (T : ErrT) : Res → Res
  | .ok (.val d) S1 => .ok (.val (.lst [.str "told", d])) S1
  | .ok (.ref _) _ => .bad
  | .exc e S1 => (match T.tbl e with
    | some (w, r) => .ok (.val (.lst [.str "error", .str w, .str r])) S1
    | none => .bad)
  | .bad => .bad
@[simp ↓] theorem ap_Told {T : ErrT} {c : CE} {ρ : Slots} {S : Store} : cTold T c ρ S = toldR T (c ρ S) := by
  unfold cTold toldR
  rfl
@[simp] theorem toldR_val {T : ErrT} {d : D} {S : Store} : toldR T (.ok (.val d) S) = .ok (.val (.lst [.str "told", d])) S := rfl
noncomputable def erD (i : Nat) (d : D) : D := .lst [.str "error", .str (wordOf i), .str (rpOf d)]
theorem toldR_er {i : Nat} {d : D} {S : Store} (hi : i ∈ [2, 4, 5, 6]) (h : rpB d = true) : toldR t_law (.exc ⟨i, ["given"], [d]⟩ S) = .ok (.val (erD i d)) S := by
  show (match t_law.tbl ⟨i, ["given"], [d]⟩ with | some (w, r) => Res.ok (.val (.lst [.str "error", .str w, .str r])) S | none => .bad) = _
  rw [tbl_any hi h]
  rfl
theorem k_wrong {i : Nat} {d : D} (h : rpB d = true) (b : Bool) (S : Store) : callIn false m__law_wrong [.val (.bl b), .val (.str (wordOf i)), .val d] S = .ok (.val (if b then .lst [] else erD i d)) S := by
  refine call_val (ds := [.bl b, .str (wordOf i), d]) rfl ?_
  have e := fun S => repr_any h S
  unfold m__law_wrong b__law_wrong runF
  cases b with
  | true => simp [gives, frzO]
  | false => simp [gives, frzO, e, erD]
theorem er_shp {i : Nat} {d : D} (hi : i ∈ [2, 4, 5, 6]) (h : rpB d = true) : shp (erD i d) = true := by
  have h3 := (rp_ok' h).2.2
  have hw : PyData.strOk (wordOf i) = true := by
    simp only [List.mem_cons, List.not_mem_nil, or_false] at hi
    rcases hi with rfl | rfl | rfl | rfl <;> decide +kernel
  have he : PyData.strOk ("error" : Str) = true := by decide +kernel
  simp [erD, shp, dOk, dOkL, dDep, dDepL, h3, hw, he]
theorem ne_er {i : Nat} {d : D} (hi : i ∈ [2, 4, 5, 6]) (h : rpB d = true) (S : Store) : fNe (.val (erD i d)) (.val (.lst [])) S = .ok (.val (.bl true)) S := by
  have e := er_shp hi h
  show (if (shp (erD i d) && shp (.lst [])) = true then Res.ok (.val (.bl (!dEq (erD i d) (.lst [])))) S else .bad) = _
  rw [e]
  rfl
/-- what is due: nothing, or an error -/
noncomputable def DueD (x : D) : Prop := x = .lst [] ∨ ∃ i d, i ∈ [2, 4, 5, 6] ∧ rpB d = true ∧ x = erD i d
theorem ne_due {x : D} (h : DueD x) (S : Store) : fNe (.val x) (.val (.lst [])) S = .ok (.val (.bl (!isNilD x))) S := by
  rcases h with rfl | ⟨i, d, hi, hd, rfl⟩
  · rfl
  · exact ne_er hi hd S
theorem k_first {x y : D} (hx : DueD x) (hy : DueD y) (S : Store) : callIn false m__law_first [.val (.lst [x, y])] S = .ok (.val (if isNilD x then y else x)) S := by
  refine call_val (ds := [.lst [x, y]]) rfl ?_
  have e1 := fun S => ne_due hx S
  have e2 := fun S => ne_due hy S
  unfold m__law_first b__law_first runF
  cases h1 : isNilD x <;> cases h2 : isNilD y <;> simp [lcGo, e1, e2, h1, h2, gives]
  exact (isNil_eq h2).symm
end T3
namespace T3
open PySem PySem.Spec PyProof.Rows L2
variable {s t : List Nat} {n : Nat}
@[simp ↓] theorem ap_CallV {tbl : Nat → Option Fn} {k : Nat} {ad : Bool} {ce : CE} {c : CA} {ρ : Slots} {S : Store} : cCallV tbl k ad ce c ρ S = (match ce ρ S with
    | .ok x S1 => (match x with
      | .val (.ins i [] []) => (match tbl i with
        | some f => cCall k ad f c ρ S1
        | none => .bad)
      | _ => .bad)
    | .exc e S1 => .exc e S1
    | .bad => .bad) := by
  unfold cCallV
  cases ce ρ S <;> rfl
/-- told and due fit -/
noncomputable def FitD (x y : D) : Prop := (∃ i d, i ∈ [2, 4, 5, 6] ∧ rpB d = true ∧ x = erD i d ∧ y = erD i d) ∨ (y = .lst [] ∧ ∃ v, x = .lst [.str "told", v] ∧ dOk v = true ∧ dDep v ≤ 5)
theorem fit_val {v : D} (h : dOk v = true) (h2 : dDep v ≤ 5) : FitD (.lst [.str "told", v]) (.lst []) := .inr ⟨rfl, v, rfl, h, h2⟩
theorem fit_er {i : Nat} {d : D} (hi : i ∈ [2, 4, 5, 6]) (h : rpB d = true) : FitD (erD i d) (erD i d) := .inl ⟨i, d, hi, h, rfl, rfl⟩
noncomputable def dueB (d : D) : D := if isTb d then .lst [] else erD 2 d
theorem dueB_due {d : D} (h : rpB d = true) : DueD (dueB d) := by
  unfold dueB
  split
  · exact .inl rfl
  · exact .inr ⟨2, d, by decide, h, rfl⟩
section
variable {d : D}
theorem ok_tupN (l : List Nat) : dOk (tupN l) = true ∧ dDep (tupN l) ≤ 5 := ⟨okL_nD l, by show dDepL (l.map nD) + 1 ≤ 5; rw [depL_nD]; decide⟩
theorem x_counting (h : tyB d = true) (hb : isTb d = false) (S : Store) : callIn false m_counting [.val d] S = .exc ⟨2, ["given"], [d]⟩ S := by
  refine call_exc (ds := [d]) (S1 := []) rfl ?_ false
  unfold m_counting b_counting runF
  simp [k_bad h hb]
theorem x_digits (h : tyB d = true) (hb : isTb d = false) (S : Store) : callIn false m_digits_of [.val d] S = .exc ⟨2, ["given"], [d]⟩ S := by
  refine call_exc (ds := [d]) (S1 := []) rfl ?_ false
  unfold m_digits_of b_digits_of runF
  simp [k_bad h hb]
theorem x_fixed (h : tyB d = true) (hb : isTb d = false) (S : Store) : callIn false m_fixed [.val d] S = .exc ⟨2, ["given"], [d]⟩ S := by
  refine call_exc (ds := [d]) (S1 := []) rfl ?_ false
  unfold m_fixed b_fixed runF
  simp [k_bad h hb]
theorem x_onto (h : tyB d = true) (hb : isTb d = false) (S : Store) : callIn false m_is_onto [.val d] S = .exc ⟨2, ["given"], [d]⟩ S := by
  refine call_exc (ds := [d]) (S1 := []) rfl ?_ false
  unfold m_is_onto b_is_onto runF
  simp [k_bad h hb]
theorem x_places (h : tyB d = true) (hb : isTb d = false) (S : Store) : callIn false m_places [.val d] S = .exc ⟨2, ["given"], [d]⟩ S := by
  refine call_exc (ds := [d]) (S1 := []) rfl ?_ false
  unfold m_places b_places runF
  simp [k_bad h hb]
theorem x_value (h : tyB d = true) (hb : isTb d = false) (y : D) (S : Store) : callIn false m_value [.val d, .val y] S = .exc ⟨2, ["given"], [d]⟩ S := by
  refine call_exc (ds := [d, y]) (S1 := []) rfl ?_ false
  unfold m_value b_value runF
  simp [k_bad h hb]
theorem x_renamed (h : tyB d = true) (hb : isTb d = false) (y : D) (S : Store) : callIn false m_renamed [.val d, .val y] S = .exc ⟨2, ["given"], [d]⟩ S := by
  refine call_exc (ds := [d, y]) (S1 := []) rfl ?_ false
  unfold m_renamed b_renamed runF
  simp [k_bad h hb]
theorem x_turned (h : tyB d = true) (hb : isTb d = false) (y : D) (S : Store) : callIn false m_turned_round [.val d, .val y] S = .exc ⟨2, ["given"], [d]⟩ S := by
  refine call_exc (ds := [d, y]) (S1 := []) rfl ?_ false
  unfold m_turned_round b_turned_round runF
  simp [k_bad h hb]
theorem x_put (h : tyB d = true) (hb : isTb d = false) (y : D) (S : Store) : callIn false m_put_together [.val d, .val y] S = .exc ⟨2, ["given"], [d]⟩ S := by
  refine call_exc (ds := [d, y]) (S1 := []) rfl ?_ false
  unfold m_put_together b_put_together runF
  simp [k_bad h hb]
theorem t_counting (h : tyB d = true) (hr : rpB d = true) : ∃ x, (∀ S, toldR t_law (callIn false m_counting [.val d] S) = .ok (.val x) S) ∧ FitD x (dueB d) := by
  cases hb : isTb d with
  | true =>
    obtain ⟨t, n, ht, rfl⟩ := isTb_ok hb
    have e := fun S => k_counting ht S
    exact ⟨.lst [.str "told", tupN (cnt t n)], fun S => by rw [e]; rfl, by unfold dueB; rw [hb]; exact fit_val (ok_tupN _).1 (ok_tupN _).2⟩
  | false => exact ⟨erD 2 d, fun S => by rw [x_counting h hb]; exact toldR_er (by decide) hr, by unfold dueB; rw [hb]; exact fit_er (by decide) hr⟩
theorem t_digits (h : tyB d = true) (hr : rpB d = true) : ∃ x, (∀ S, toldR t_law (callIn false m_digits_of [.val d] S) = .ok (.val x) S) ∧ FitD x (dueB d) := by
  cases hb : isTb d with
  | true =>
    obtain ⟨t, n, ht, rfl⟩ := isTb_ok hb
    have e := fun S => k_digits ht S
    exact ⟨.lst [.str "told", tupN (dg3 t)], fun S => by rw [e]; rfl, by unfold dueB; rw [hb]; exact fit_val (ok_tupN _).1 (ok_tupN _).2⟩
  | false => exact ⟨erD 2 d, fun S => by rw [x_digits h hb]; exact toldR_er (by decide) hr, by unfold dueB; rw [hb]; exact fit_er (by decide) hr⟩
theorem t_fixed (h : tyB d = true) (hr : rpB d = true) : ∃ x, (∀ S, toldR t_law (callIn false m_fixed [.val d] S) = .ok (.val x) S) ∧ FitD x (dueB d) := by
  cases hb : isTb d with
  | true =>
    obtain ⟨t, n, ht, rfl⟩ := isTb_ok hb
    have e := fun S => k_fixed ht S
    exact ⟨.lst [.str "told", tupN (fx t n)], fun S => by rw [e]; rfl, by unfold dueB; rw [hb]; exact fit_val (ok_tupN _).1 (ok_tupN _).2⟩
  | false => exact ⟨erD 2 d, fun S => by rw [x_fixed h hb]; exact toldR_er (by decide) hr, by unfold dueB; rw [hb]; exact fit_er (by decide) hr⟩
theorem t_onto (h : tyB d = true) (hr : rpB d = true) : ∃ x, (∀ S, toldR t_law (callIn false m_is_onto [.val d] S) = .ok (.val x) S) ∧ FitD x (dueB d) := by
  cases hb : isTb d with
  | true =>
    obtain ⟨t, n, ht, rfl⟩ := isTb_ok hb
    have e := fun S => k_onto ht S
    exact ⟨.lst [.str "told", .bl (full t)], fun S => by rw [e]; rfl, by unfold dueB; rw [hb]; exact fit_val rfl (by show 0 ≤ 5; decide)⟩
  | false => exact ⟨erD 2 d, fun S => by rw [x_onto h hb]; exact toldR_er (by decide) hr, by unfold dueB; rw [hb]; exact fit_er (by decide) hr⟩
theorem t_places (h : tyB d = true) (hr : rpB d = true) : ∃ x, (∀ S, toldR t_law (callIn false m_places [.val d] S) = .ok (.val x) S) ∧ FitD x (dueB d) := by
  cases hb : isTb d with
  | true =>
    obtain ⟨t, n, ht, rfl⟩ := isTb_ok hb
    have e := fun S => k_P ht S
    exact ⟨.lst [.str "told", nD n], fun S => by rw [e]; rfl, by unfold dueB; rw [hb]; exact fit_val rfl (by show 0 ≤ 5; decide)⟩
  | false => exact ⟨erD 2 d, fun S => by rw [x_places h hb]; exact toldR_er (by decide) hr, by unfold dueB; rw [hb]; exact fit_er (by decide) hr⟩
end
end T3
namespace T3
open PySem PySem.Spec PyProof.Rows L2
variable {s t : List Nat} {n : Nat}
noncomputable def fitB (n : Nat) : D → Bool
  | .tup ds => decide (ds.length = n) && ds.all (wholeB 0 2)
  | _ => false
/-- of askable types, to its parts -/
noncomputable def tysB : D → Bool
  | .tup ds => ds.all tyB && decide (ds.length ≤ 1000)
  | d => tyB d
theorem eq_nat (a b : Nat) (S : Store) : fEq (.val (.int (a : Nat))) (.val (.int (b : Nat))) S = .ok (.val (.bl (decide (a = b)))) S := by
  show Res.ok (.val (.bl ((a : Int) == (b : Int)))) S = _
  rw [beq_nat]
  rfl
theorem lc_tys (f : D → Bool) (k : Nat) (ce : CE) (ρ : Slots) (ds : List D) (S : Store) (he : ∀ x ∈ ds, ce (ρ.set k (some (.val x))) S = .ok (.val (.bl (f x))) S) : lcGo (elm (tgName k) cYes ce ρ) ds S = some (ds.map fun x => D.bl (f x), S) := by
  have := lcGo_on (f := elm (tgName k) cYes ce ρ) (g := fun x => D.bl (f x)) (h := fun x : D => x) (S := S) (l := ds) (fun x hx => by simp [he x hx])
  simpa using this
theorem k_areB {d : D} (h : tysB d = true) (S : Store) : callIn false m_are_arguments [.val (nD n), .val d] S = .ok (.val (.bl (fitB n d))) S := by
  refine call_vb (ds := [nD n, d]) (S1 := []) rfl ?_ false
  unfold m_are_arguments b_are_arguments runF
  cases d with
  | tup ds =>
    have h' : ds.all tyB = true ∧ ds.length ≤ 1000 := by simpa [tysB] using h
    have hz : szOk ds.length = true := szOk_le h'.2
    have key : ∀ S, lcGo (elm (tgName 2) cYes (cCall 3 false m_is_between (cCons (cV 2) (cCons (cI 0) (cCons (cI 2) cNil)))) [some (.val (nD n)), some (.val (.tup ds)), none]) ds S = some (ds.map fun x => D.bl (wholeB 0 2 x), S) := fun S =>
      lc_tys (wholeB 0 2) 2 _ _ ds S fun x hx => by
        have e := fun S => k_betw (List.all_eq_true.mp h'.1 x hx) 0 2 S
        simp [e]
    have ha := fun S => all_bools (wholeB 0 2) ds S
    have he := fun S => eq_nat ds.length n S
    have he' : ∀ S, fEq (.val (.int (ds.length : Nat))) (.val (nD n)) S = .ok (.val (.bl (decide (ds.length = n)))) S := he
    cases hl : decide (ds.length = n) with
    | true => simp [tyD, subT, fitB, hz, key, ha, he', hl]
    | false => simp [tyD, subT, fitB, hz, key, ha, he', hl]
  | ins _ _ _ => cases h
  | wt _ => cases h
  | _ => simp [tyD, subT, fitB]
theorem fit_tup {d : D} (h : fitB n d = true) : ∃ a, d = tupN a ∧ Dg a ∧ a.length = n := by
  cases d with
  | tup ds =>
    unfold fitB at h
    rw [Bool.and_eq_true, decide_eq_true_eq, List.all_eq_true] at h
    obtain ⟨h1, h2⟩ := h
    have key : ∀ ds : List D, (∀ x ∈ ds, wholeB 0 2 x = true) → ∃ a : List Nat, ds = a.map nD ∧ Dg a := by
      intro ds
      induction ds with
      | nil => exact fun _ => ⟨[], rfl, fun x hx => by cases hx⟩
      | cons x r ih =>
        intro hx
        obtain ⟨a, ha, hd⟩ := ih fun y hy => hx y (List.mem_cons_of_mem _ hy)
        have hw := hx x List.mem_cons_self
        cases x with
        | int i =>
          unfold wholeB at hw
          rw [Bool.and_eq_true, decide_eq_true_eq, decide_eq_true_eq] at hw
          refine ⟨i.toNat :: a, ?_, fun y hy => ?_⟩
          · rw [ha]
            show _ = nD i.toNat :: _
            unfold nD
            rw [show ((i.toNat : Nat) : Int) = i by omega]
          · rcases List.mem_cons.mp hy with rfl | hy
            · omega
            · exact hd y hy
        | _ => cases hw
    obtain ⟨a, rfl, hd⟩ := key ds h2
    exact ⟨a, rfl, hd, by simpa using h1⟩
  | _ => cases h
noncomputable def dueA (b y : D) (n : Nat) : D := if isTb b then (if fitB n y then .lst [] else erD 4 y) else erD 2 b
theorem t_value {b y : D} (h : tyB b = true) (hr : rpB b = true) (hy : tysB y = true) (hry : rpB y = true) (hn : isTb b = true → ∃ t, Tb t n ∧ b = .str (tx t)) : ∃ x, (∀ S, toldR t_law (callIn false m_value [.val b, .val y] S) = .ok (.val x) S) ∧ FitD x (dueA b y n) := by
  cases hb : isTb b with
  | true =>
    obtain ⟨t, ht, rfl⟩ := hn hb
    cases hf : fitB n y with
    | true =>
      obtain ⟨a, rfl, ha, hl⟩ := fit_tup hf
      have e := fun S => k_value ht ha hl S
      exact ⟨.lst [.str "told", nD (gd t (ix a))], fun S => by rw [e]; rfl, by unfold dueA; rw [hb, hf]; exact fit_val rfl (by show 0 ≤ 5; decide)⟩
    | false =>
      have e : ∀ S, callIn false m_value [.val (.str (tx t)), .val y] S = .exc ⟨4, ["given"], [y]⟩ S := fun S => by
        refine call_exc (ds := [.str (tx t), y]) (S1 := []) rfl ?_ false
        have e1 := fun S => k_areB (n := n) hy S
        rw [hf] at e1
        unfold m_value b_value runF
        simp [k_check ht, k_places_of false ht, e1, sRaiseX]
      exact ⟨erD 4 y, fun S => by rw [e]; exact toldR_er (by decide) hry, by unfold dueA; rw [hb, hf]; exact fit_er (by decide) hry⟩
  | false => exact ⟨erD 2 b, fun S => by rw [x_value h hb]; exact toldR_er (by decide) hr, by unfold dueA; rw [hb]; exact fit_er (by decide) hr⟩
end T3
namespace T3
open PySem PySem.Spec PyProof.Rows L2
variable {s t : List Nat} {n : Nat}
noncomputable def ordL : List D := [tupN [0, 1, 2], tupN [2, 0, 1], tupN [0, 1], tupN [0, 0, 1], .lst [.int 0, .int 1, .int 2], tupN [1, 2, 3], .tup [.int 0, .bl true, .int 2], .non, tupN [0], tupN [1, 0]]
noncomputable def ordOk (n : Nat) (d : D) : Prop := (∃ c ∈ SE.prm n, d = tupN c ∧ gives (m__law_is_order [.val d, .val (nD n)] []) = some (.bl true)) ∨
  (gives (m__law_is_order [.val d, .val (nD n)] []) = some (.bl false) ∧ m_check_order [.val (nD n), .val d] [] = .exc ⟨6, ["given"], [d]⟩ [])
theorem ord_all (hn : n = 1 ∨ n = 2 ∨ n = 3) {d : D} (hd : d ∈ ordL) : ordOk n d := by
  unfold ordL at hd
  simp only [List.mem_cons, List.not_mem_nil, or_false] at hd
  rcases hn with rfl | rfl | rfl <;> rcases hd with rfl | rfl | rfl | rfl | rfl | rfl | rfl | rfl | rfl | rfl
  · exact .inr ⟨by kernel_rfl, by kernel_rfl⟩
  · exact .inr ⟨by kernel_rfl, by kernel_rfl⟩
  · exact .inr ⟨by kernel_rfl, by kernel_rfl⟩
  · exact .inr ⟨by kernel_rfl, by kernel_rfl⟩
  · exact .inr ⟨by kernel_rfl, by kernel_rfl⟩
  · exact .inr ⟨by kernel_rfl, by kernel_rfl⟩
  · exact .inr ⟨by kernel_rfl, by kernel_rfl⟩
  · exact .inr ⟨by kernel_rfl, by kernel_rfl⟩
  · exact .inl ⟨[0], by decide, rfl, by kernel_rfl⟩
  · exact .inr ⟨by kernel_rfl, by kernel_rfl⟩
  · exact .inr ⟨by kernel_rfl, by kernel_rfl⟩
  · exact .inr ⟨by kernel_rfl, by kernel_rfl⟩
  · exact .inl ⟨[0, 1], by decide, rfl, by kernel_rfl⟩
  · exact .inr ⟨by kernel_rfl, by kernel_rfl⟩
  · exact .inr ⟨by kernel_rfl, by kernel_rfl⟩
  · exact .inr ⟨by kernel_rfl, by kernel_rfl⟩
  · exact .inr ⟨by kernel_rfl, by kernel_rfl⟩
  · exact .inr ⟨by kernel_rfl, by kernel_rfl⟩
  · exact .inr ⟨by kernel_rfl, by kernel_rfl⟩
  · exact .inl ⟨[1, 0], by decide, rfl, by kernel_rfl⟩
  · exact .inl ⟨[0, 1, 2], by decide, rfl, by kernel_rfl⟩
  · exact .inl ⟨[2, 0, 1], by decide, rfl, by kernel_rfl⟩
  · exact .inr ⟨by kernel_rfl, by kernel_rfl⟩
  · exact .inr ⟨by kernel_rfl, by kernel_rfl⟩
  · exact .inr ⟨by kernel_rfl, by kernel_rfl⟩
  · exact .inr ⟨by kernel_rfl, by kernel_rfl⟩
  · exact .inr ⟨by kernel_rfl, by kernel_rfl⟩
  · exact .inr ⟨by kernel_rfl, by kernel_rfl⟩
  · exact .inr ⟨by kernel_rfl, by kernel_rfl⟩
  · exact .inr ⟨by kernel_rfl, by kernel_rfl⟩
theorem ord_rp : ∀ d ∈ ordL, rpB d = true := by
  intro d hd
  unfold ordL at hd
  simp only [List.mem_cons, List.not_mem_nil, or_false] at hd
  rcases hd with rfl | rfl | rfl | rfl | rfl | rfl | rfl | rfl | rfl | rfl <;> decide +kernel
noncomputable def dueO (b y : D) (w : Bool) : D := if isTb b then (if w then .lst [] else erD 6 y) else erD 2 b
theorem okS_tx (t : List Nat) (h : Dg t) : dOk (.str (tx t)) = true ∧ dDep (.str (tx t)) ≤ 5 := by
  refine ⟨?_, by show 0 ≤ 5; decide⟩
  show PyData.strOk (tx t) = true
  unfold PyData.strOk
  rw [← Array.all_toList, tx_list, List.all_map, List.all_eq_true]
  intro x hx
  have := h x hx
  show decide (48 + x < 0x110000) = true
  exact decide_eq_true (by omega)
/-- what the law says of an order -/
theorem k_law_order (hn : n = 1 ∨ n = 2 ∨ n = 3) {d : D} (hd : d ∈ ordL) : ∃ w, (∀ S, callIn false m__law_is_order [.val d, .val (nD n)] S = .ok (.val (.bl w)) S) ∧ ((w = true ∧ ∃ c ∈ SE.prm n, d = tupN c) ∨ (w = false ∧ ∀ S, callIn false m_check_order [.val (nD n), .val d] S = .exc ⟨6, ["given"], [d]⟩ S)) := by
  rcases ord_all hn hd with ⟨c, hc, rfl, e⟩ | ⟨e1, e2⟩
  · exact ⟨true, fun S => call_val (ds := [tupN c, nD n]) rfl e, .inl ⟨rfl, c, hc, rfl⟩⟩
  · exact ⟨false, fun S => call_val (ds := [d, nD n]) rfl e1, .inr ⟨rfl, fun S => call_exc (ds := [nD n, d]) rfl e2 false⟩⟩
theorem t_renamed {b d : D} (h : tyB b = true) (hr : rpB b = true) (hd : d ∈ ordL) : ∃ x w, (∀ S, callIn false m__law_is_order [.val d, .val (.int 3)] S = .ok (.val (.bl w)) S) ∧ (∀ S, toldR t_law (callIn false m_renamed [.val b, .val d] S) = .ok (.val x) S) ∧ FitD x (dueO b d w) := by
  obtain ⟨w, e, hw⟩ := k_law_order (n := 3) (.inr (.inr rfl)) hd
  have hrd := ord_rp d hd
  cases hb : isTb b with
  | true =>
    obtain ⟨t, n, ht, rfl⟩ := isTb_ok hb
    rcases hw with ⟨rfl, c, hc, rfl⟩ | ⟨rfl, ex⟩
    · have e1 := fun S => SE.k_renamed false ht hc S
      have htr := (SE.rn_tb ht hc).dg
      exact ⟨.lst [.str "told", .str (tx (SE.rn t n c))], true, e, fun S => by rw [e1]; rfl, by unfold dueO; rw [hb]; exact fit_val (okS_tx _ htr).1 (okS_tx _ htr).2⟩
    · have e1 : ∀ S, callIn false m_renamed [.val (.str (tx t)), .val d] S = .exc ⟨6, ["given"], [d]⟩ S := fun S => by
        refine call_exc (ds := [.str (tx t), d]) (S1 := []) rfl ?_ false
        have ex' : ∀ S, callIn false m_check_order [.val (.int 3), .val d] S = .exc ⟨6, ["given"], [d]⟩ S := ex
        unfold m_renamed b_renamed runF
        simp [k_check ht, ex']
      exact ⟨erD 6 d, false, e, fun S => by rw [e1]; exact toldR_er (by decide) hrd, by unfold dueO; rw [hb]; exact fit_er (by decide) hrd⟩
  | false => exact ⟨erD 2 b, w, e, fun S => by rw [x_renamed h hb]; exact toldR_er (by decide) hr, by unfold dueO; rw [hb]; exact fit_er (by decide) hr⟩
theorem t_turned {b d : D} (h : tyB b = true) (hr : rpB b = true) (hd : d ∈ ordL) (hn3 : n = 1 ∨ n = 2 ∨ n = 3) (hn : isTb b = true → ∃ t, Tb t n ∧ b = .str (tx t)) : ∃ x w, (∀ S, callIn false m__law_is_order [.val d, .val (.int (n : Nat))] S = .ok (.val (.bl w)) S) ∧ (∀ S, toldR t_law (callIn false m_turned_round [.val b, .val d] S) = .ok (.val x) S) ∧ FitD x (dueO b d w) := by
  obtain ⟨w, e, hw⟩ := k_law_order hn3 hd
  have hrd := ord_rp d hd
  cases hb : isTb b with
  | true =>
    obtain ⟨t, ht, rfl⟩ := hn hb
    rcases hw with ⟨rfl, c, hc, rfl⟩ | ⟨rfl, ex⟩
    · have e1 := fun S => SE.k_turned ht hc S
      have htr := (SE.tr_tb ht hc).dg
      exact ⟨.lst [.str "told", .str (tx (SE.tr t n c))], true, e, fun S => by rw [e1]; rfl, by unfold dueO; rw [hb]; exact fit_val (okS_tx _ htr).1 (okS_tx _ htr).2⟩
    · have e1 : ∀ S, callIn false m_turned_round [.val (.str (tx t)), .val d] S = .exc ⟨6, ["given"], [d]⟩ S := fun S => by
        refine call_exc (ds := [.str (tx t), d]) (S1 := []) rfl ?_ false
        have ex' : ∀ S, callIn false m_check_order [.val (nD n), .val d] S = .exc ⟨6, ["given"], [d]⟩ S := ex
        unfold m_turned_round b_turned_round runF
        simp [k_check ht, k_places_of false ht, ex']
      exact ⟨erD 6 d, false, e, fun S => by rw [e1]; exact toldR_er (by decide) hrd, by unfold dueO; rw [hb]; exact fit_er (by decide) hrd⟩
  | false => exact ⟨erD 2 b, w, e, fun S => by rw [x_turned h hb]; exact toldR_er (by decide) hr, by unfold dueO; rw [hb]; exact fit_er (by decide) hr⟩
end T3
namespace T3
open PySem PySem.Spec PyProof.Rows L2
variable {s t : List Nat} {n : Nat}
noncomputable def lenD : D → Nat
  | .str x => x.length
  | _ => 0
noncomputable def p1B (n : Nat) : D → Bool
  | .tup ds => decide (ds.length = n) && ds.all isTb
  | _ => false
noncomputable def p2B : D → Bool
  | .tup ds => ds.all fun x => decide (lenD x = lenD (ds.headD .non))
  | _ => false
noncomputable def dueP (b y : D) (n : Nat) : D := if isTb b then (if p1B n y && p2B y then .lst [] else erD 5 y) else erD 2 b
theorem ded1 : ∀ a ∈ [3, 9, 27], decide ((1 : Int) < ((dedupI ([a].map fun (x : Nat) => (x : Int))).length : Int)) = !([a].all fun x => decide (x = [a].headD 0)) := by decide +kernel
theorem ded2 : ∀ a ∈ [3, 9, 27], ∀ b ∈ [3, 9, 27], decide ((1 : Int) < ((dedupI ([a, b].map fun (x : Nat) => (x : Int))).length : Int)) = !([a, b].all fun x => decide (x = [a, b].headD 0)) := by decide +kernel
theorem ded3 : ∀ a ∈ [3, 9, 27], ∀ b ∈ [3, 9, 27], ∀ c ∈ [3, 9, 27], decide ((1 : Int) < ((dedupI ([a, b, c].map fun (x : Nat) => (x : Int))).length : Int)) = !([a, b, c].all fun x => decide (x = [a, b, c].headD 0)) := by decide +kernel
theorem lens_ded : ∀ l : List Nat, 1 ≤ l.length → l.length ≤ 3 → (∀ x ∈ l, x ∈ [3, 9, 27]) → decide ((1 : Int) < ((dedupI (l.map fun (x : Nat) => (x : Int))).length : Int)) = !(l.all fun x => decide (x = l.headD 0))
  | [a], _, _, h => ded1 a (h a (by simp))
  | [a, b], _, _, h => ded2 a (h a (by simp)) b (h b (by simp))
  | [a, b, c], _, _, h => ded3 a (h a (by simp)) b (h b (by simp)) c (h c (by simp))
/-- a tuple of tables -/
theorem p1_ok {d : D} (h : p1B n d = true) : ∃ ts : List (List Nat × Nat), d = .tup (ts.map fun p => SE.strT p.1) ∧ ts.length = n ∧ ∀ p ∈ ts, Tb p.1 p.2 := by
  cases d with
  | tup ds =>
    unfold p1B at h
    rw [Bool.and_eq_true, decide_eq_true_eq, List.all_eq_true] at h
    obtain ⟨h1, h2⟩ := h
    have key : ∀ ds : List D, (∀ x ∈ ds, isTb x = true) → ∃ ts : List (List Nat × Nat), ds = ts.map (fun p => SE.strT p.1) ∧ ∀ p ∈ ts, Tb p.1 p.2 := by
      intro ds
      induction ds with
      | nil => exact fun _ => ⟨[], rfl, fun x hx => by cases hx⟩
      | cons x r ih =>
        intro hx
        obtain ⟨ts, ht, hd⟩ := ih fun y hy => hx y (List.mem_cons_of_mem _ hy)
        obtain ⟨t, m, hm, rfl⟩ := isTb_ok (hx x List.mem_cons_self)
        refine ⟨(t, m) :: ts, by rw [ht]; rfl, fun p hp => ?_⟩
        rcases List.mem_cons.mp hp with rfl | hp
        · exact hm
        · exact hd p hp
    obtain ⟨ts, rfl, hd⟩ := key ds h2
    exact ⟨ts, rfl, by simpa using h1, hd⟩
  | _ => cases h
theorem ln_strT (u : List Nat) : lenD (SE.strT u) = u.length := tx_len u
theorem tb_l3 (h : Tb t n) : t.length ∈ [3, 9, 27] := by
  rw [h.len]
  rcases h.cases with e | e | e <;> subst e <;> decide
/-- the program's two checks of the tables -/
theorem c_put {d : D} (ht : Tb t n) (hd : tysB d = true) (S : Store) : (p1B n d && p2B d) = false → callIn false m_put_together [.val (.str (tx t)), .val d] S = .exc ⟨5, ["given"], [d]⟩ S := by
  intro hp
  refine call_exc (ds := [.str (tx t), d]) (S1 := []) rfl ?_ false
  unfold m_put_together b_put_together runF
  have k0 := fun S => k_check ht S
  have k1 := fun S => k_places_of false ht S
  cases d with
  | tup ds =>
    have h' : ds.all tyB = true ∧ ds.length ≤ 1000 := by simpa [tysB] using hd
    have hz : szOk ds.length = true := szOk_le h'.2
    have key : ∀ S, lcGo (elm (tgName 2) cYes (cCall 1 false m_is_table (cCons (cV 2) cNil)) [some (.val (.str (tx t))), some (.val (.tup ds)), none]) ds S = some (ds.map fun x => D.bl (isTb x), S) := fun S =>
      lc_tys isTb 2 _ _ ds S fun x hx => by
        have e := fun S => k_isT (List.all_eq_true.mp h'.1 x hx) S
        simp [e]
    have ha := fun S => all_bools isTb ds S
    have hn : ∀ S, fNe (.val (.int (ds.length : Nat))) (.val (nD n)) S = .ok (.val (.bl (!decide (ds.length = n)))) S := fun S => by
      show Res.ok (.val (.bl (!((ds.length : Int) == (n : Int))))) S = _
      rw [beq_nat]
      rfl
    cases h1 : p1B n (.tup ds) with
    | false =>
      have h1 : (decide (ds.length = n) && ds.all isTb) = false := h1
      cases hl : decide (ds.length = n) with
      | false => simp [k0, k1, tyD, subT, hz, key, ha, hn, hl, sRaiseX]
      | true =>
        rw [hl, Bool.true_and] at h1
        simp [k0, k1, tyD, subT, hz, key, ha, hn, hl, h1, sRaiseX]
    | true =>
      rw [h1, Bool.true_and] at hp
      have h1 : (decide (ds.length = n) && ds.all isTb) = true := h1
      rw [Bool.and_eq_true] at h1
      obtain ⟨hl, hall⟩ := h1
      have hln : ds.length = n := of_decide_eq_true hl
      have hds : ∀ x ∈ ds, ∃ u m, Tb u m ∧ x = .str (tx u) := fun x hx => isTb_ok (List.all_eq_true.mp hall x hx)
      have kl : ∀ S, lcGo (elm (tgName 2) cYes (cB1 fLen (cCons (cV 2) cNil)) [some (.val (.str (tx t))), some (.val (.tup ds)), none]) ds S = some (ds.map fun x => D.int (lenD x : Nat), S) := fun S => by
        have := lcGo_on (f := elm (tgName 2) cYes (cB1 fLen (cCons (cV 2) cNil)) [some (.val (.str (tx t))), some (.val (.tup ds)), none]) (g := fun x => D.int (lenD x : Nat)) (h := fun x : D => x) (S := S) (l := ds) (fun x hx => by
          obtain ⟨u, m, hu, rfl⟩ := hds x hx
          have hz : szOk (tx u).length = true := szOk_le (by rw [tx_len]; have := hu.le; omega)
          simp [hz, lenD])
        simpa using this
      have hi : intsOf (ds.map fun x => D.int (lenD x : Nat)) = some ((ds.map lenD).map fun (x : Nat) => (x : Int)) := by
        rw [intsOf_map, List.map_map]
        rfl
      have hl3 := ht.n3
      have hded := lens_ded (ds.map lenD) (by rw [List.length_map, hln]; exact ht.n1) (by rw [List.length_map, hln]; exact ht.n3) (fun x hx => by
        obtain ⟨y, hy, rfl⟩ := List.mem_map.mp hx
        obtain ⟨u, m, hu, rfl⟩ := hds y hy
        show (tx u).length ∈ _
        rw [tx_len]
        exact tb_l3 hu)
      have hp2 : ((ds.map lenD).all fun x => decide (x = (ds.map lenD).headD 0)) = false := by
        rw [← hp, List.all_map]
        cases ds with
        | nil => rfl
        | cons y r => rfl
      rw [hp2] at hded
      have hz2 : ((ds.map lenD).map fun (x : Nat) => (x : Int)).length ≤ 1000 := by rw [List.length_map, List.length_map]; exact h'.2
      have hz3 : decide (((ds.map lenD).map fun (x : Nat) => (x : Int)).length ≤ 1000) = true := decide_eq_true hz2
      generalize hDD : (ds.map lenD).map (fun (x : Nat) => (x : Int)) = DD at *
      simp [k0, k1, tyD, subT, hz, key, ha, hn, hl, hall, kl, hi, hz2, gi, hded, sRaiseX]
  | ins _ _ _ => cases hd
  | wt _ => cases hd
  | _ => simp [k0, k1, tyD, subT, sRaiseX]
end T3
namespace T3
open PySem PySem.Spec PyProof.Rows L2
variable {s t : List Nat} {n : Nat}
noncomputable def Sg (x : Str) : Prop := ∀ c ∈ x.cps.toList, c < 0x110000
theorem sg_ok {x : Str} (h : Sg x) : PyData.strOk x = true := by
  unfold PyData.strOk
  rw [← Array.all_toList, List.all_eq_true]
  exact fun c hc => decide_eq_true (h c hc)
theorem sg_app {a b : Str} (ha : Sg a) (hb : Sg b) : Sg (a ++ b) := fun c hc => by
  have hc : c ∈ (a.cps ++ b.cps).toList := hc
  rw [Array.toList_append, List.mem_append] at hc
  exact hc.elim (ha c) (hb c)
theorem sg_lit {x : Str} (h : PyData.strOk x = true) : Sg x := fun c hc => by
  unfold PyData.strOk at h
  rw [← Array.all_toList, List.all_eq_true] at h
  exact of_decide_eq_true (h c hc)
noncomputable def dgS (x : Str) : Bool := x.cps.toList.all fun c => decide (48 ≤ c) && decide (c ≤ 51)
theorem rc_dig (q : Nat) (hq : q = 34 ∨ q = 39) (c : Nat) (h1 : 48 ≤ c) (h2 : c ≤ 51) : Builtin.Str.reprChar q c = [c] := by
  have : c = 48 ∨ c = 49 ∨ c = 50 ∨ c = 51 := by omega
  rcases hq with rfl | rfl <;> rcases this with rfl | rfl | rfl | rfl <;> decide +kernel
theorem fold_dig (q : Nat) (hq : q = 34 ∨ q = 39) : ∀ (l : List Nat) (acc : Array Nat), (∀ c ∈ l, 48 ≤ c ∧ c ≤ 51) → (∀ c ∈ acc.toList, c < 0x110000) → ∀ c ∈ (l.foldl (fun out c => out ++ (Builtin.Str.reprChar q c).toArray) acc).toList, c < 0x110000
  | [], acc, _, h => h
  | x :: r, acc, hl, h => by
    rw [List.foldl_cons]
    refine fold_dig q hq r _ (fun c hc => hl c (List.mem_cons_of_mem _ hc)) fun c hc => ?_
    have hx := hl x List.mem_cons_self
    rw [rc_dig q hq x hx.1 hx.2, Array.toList_append, List.mem_append] at hc
    rcases hc with hc | hc
    · exact h c hc
    · simp at hc
      omega
theorem sg_repr {x : Str} (h : dgS x = true) : Sg (reprText x) := by
  have hq : reprQuote x = 34 ∨ reprQuote x = 39 := by
    unfold reprQuote
    split
    · exact .inl rfl
    · exact .inr rfl
  have hx : ∀ c ∈ x.cps.toList, 48 ≤ c ∧ c ≤ 51 := fun c hc => by
    have := List.all_eq_true.mp h c hc
    rw [Bool.and_eq_true, decide_eq_true_eq, decide_eq_true_eq] at this
    exact this
  intro c hc
  unfold reprText at hc
  rw [Array.toList_push, List.mem_append] at hc
  rcases hc with hc | hc
  · rw [← Array.foldl_toList] at hc
    refine fold_dig (reprQuote x) hq x.cps.toList _ hx (fun c hc => ?_) c hc
    simp at hc
    omega
  · simp at hc
    omega
theorem sg_from : ∀ (ts : List Str) (k : Nat) (acc : Str), Sg acc → (∀ t ∈ ts, Sg t) → Sg (textFrom k acc ts)
  | [], _, _, h, _ => h
  | t :: r, k, acc, h, ht => sg_from r (k + 1) _ (sg_app (sg_app h (by split <;> exact sg_lit (by decide +kernel))) (ht t List.mem_cons_self)) fun y hy => ht y (List.mem_cons_of_mem _ hy)
theorem sg_join : ∀ ts : List Str, (∀ t ∈ ts, Sg t) → Sg (Str.join ", " ts)
  | [], _ => sg_lit (by decide +kernel)
  | [x], h => h x List.mem_cons_self
  | x :: y :: r, h => sg_app (sg_app (h x List.mem_cons_self) (sg_lit (by decide +kernel))) (sg_join (y :: r) fun z hz => h z (List.mem_cons_of_mem _ hz))
theorem sg_list {ts : List Str} (h : ∀ t ∈ ts, Sg t) : Sg (listText ts) := sg_app (sg_from ts 0 _ (sg_lit (by decide +kernel)) h) (sg_lit (by decide +kernel))
theorem sg_tup {ts : List Str} (h : ∀ t ∈ ts, Sg t) : Sg (tupleText ts) := sg_app (sg_app (sg_lit (by decide +kernel)) (sg_join ts h)) (by split <;> exact sg_lit (by decide +kernel))
theorem dg_strOk {x : Str} (h : dgS x = true) : PyData.strOk x = true := sg_ok fun c hc => by
  have := List.all_eq_true.mp h c hc
  rw [Bool.and_eq_true, decide_eq_true_eq, decide_eq_true_eq] at this
  omega
/-- texts of signs, at most 100 of at most 30 -/
noncomputable def strL (xs : List Str) : List D := xs.map D.str
theorem shown_L : ∀ xs : List Str, PyData.shownAll (toPL (strL xs)) = xs.map reprText
  | [] => rfl
  | x :: r => congrArg (reprText x :: ·) (shown_L r)
theorem okL_S : ∀ xs : List Str, (∀ x ∈ xs, dgS x = true) → dOkL (strL xs) = true ∧ shwL (strL xs) = true ∧ dDepL (strL xs) = 0 ∧ nInsL (strL xs) = true
  | [], _ => ⟨rfl, rfl, rfl, rfl⟩
  | x :: r, h => by
    obtain ⟨a, b, c, d⟩ := okL_S r fun y hy => h y (List.mem_cons_of_mem _ hy)
    refine ⟨?_, ?_, ?_, ?_⟩
    · show (PyData.strOk x && dOkL (strL r)) = true
      rw [dg_strOk (h x List.mem_cons_self), a]
      rfl
    · show (true && shwL (strL r)) = true
      rw [b]
      rfl
    · show max 0 (dDepL (strL r)) = 0
      rw [c]
      rfl
    · show (true && nInsL (strL r)) = true
      rw [d]
      rfl
theorem rszL_S : ∀ xs : List Str, (∀ x ∈ xs, x.length ≤ 30) → rszL (strL xs) ≤ 304 * xs.length
  | [], _ => Nat.le_refl _
  | x :: r, h => by
    have ih := rszL_S r fun y hy => h y (List.mem_cons_of_mem _ hy)
    have hx := h x List.mem_cons_self
    show 10 * x.length + 2 + 2 + rszL (strL r) ≤ 304 * (r.length + 1)
    omega
theorem rp_of {d : D} (h1 : dOk d = true) (h2 : shw d = true) (h3 : dDep d ≤ 60) (h4 : rsz d ≤ 16000000) (h5 : nIns d = true) (h6 : Sg (PyData.shown (toP d))) (h7 : ∀ S, fReprD [.val d] S = fRepr [.val d] S) : rpB d = true := by
  have ho : rpOk d = true := by
    unfold rpOk shp
    rw [h1, h2, decide_eq_true h3]
    exact decide_eq_true h4
  unfold rpB
  rw [h5, h7]
  show (match (if rpOk d then Res.ok (.val (.str (rp d))) [] else .bad) with
    | .ok (.val (.str r)) [] => PyData.strOk r
    | _ => false) = true
  rw [if_pos ho]
  exact sg_ok h6
theorem rp_str {x : Str} (h : dgS x = true) (hl : x.length ≤ 30) : rpB (.str x) = true :=
  rp_of (dg_strOk h) rfl (by show 0 ≤ 60; decide) (by show 10 * x.length + 2 ≤ _; omega) rfl (sg_repr h) fun S => rfl
theorem rp_lstS {xs : List Str} (h : ∀ x ∈ xs, dgS x = true) (hl : ∀ x ∈ xs, x.length ≤ 30) (hn : xs.length ≤ 100) : rpB (.lst (strL xs)) = true := by
  obtain ⟨a, b, c, d⟩ := okL_S xs h
  refine rp_of a b (by show dDepL (strL xs) + 1 ≤ 60; rw [c]; decide) (by show rszL (strL xs) + 4 ≤ _; have := rszL_S xs hl; omega) d ?_ fun S => rfl
  show Sg (listText (PyData.shownAll (toPL (strL xs))))
  rw [shown_L]
  refine sg_list fun t ht => ?_
  obtain ⟨x, hx, rfl⟩ := List.mem_map.mp ht
  exact sg_repr (h x hx)
theorem rp_tupS {xs : List Str} (h : ∀ x ∈ xs, dgS x = true) (hl : ∀ x ∈ xs, x.length ≤ 30) (hn : xs.length ≤ 100) : rpB (.tup (strL xs)) = true := by
  obtain ⟨a, b, c, d⟩ := okL_S xs h
  refine rp_of a b (by show dDepL (strL xs) + 1 ≤ 60; rw [c]; decide) (by show rszL (strL xs) + 4 ≤ _; have := rszL_S xs hl; omega) d ?_ fun S => rfl
  show Sg (tupleText (PyData.shownAll (toPL (strL xs))))
  rw [shown_L]
  refine sg_tup fun t ht => ?_
  obtain ⟨x, hx, rfl⟩ := List.mem_map.mp ht
  exact sg_repr (h x hx)
theorem dg_tx {l : List Nat} (h : ∀ x ∈ l, x < 4) : dgS (tx l) = true := by
  unfold dgS
  rw [tx_list, List.all_map, List.all_eq_true]
  intro x hx
  have := h x hx
  show (decide (48 ≤ 48 + x) && decide (48 + x ≤ 51)) = true
  rw [Bool.and_eq_true, decide_eq_true_eq, decide_eq_true_eq]
  omega
end T3
namespace T3
open PySem PySem.Spec PyProof.Rows L2
variable {s t : List Nat} {n : Nat}
theorem cut1 (l : List Nat) : cutS (tx l) (some 1) none = tx (l.drop 1) := by
  unfold cutS
  rw [tx_len, tx_list, HT.sIx_none, show (some (1 : Int)) = some ((1 : Nat) : Int) from rfl, HT.sIx_nat]
  cases l with
  | nil => rfl
  | cons x r =>
    unfold tx
    have e : min 1 (x :: r).length = 1 := by simp
    rw [e, List.map_cons, List.drop_succ_cons, List.drop_zero, List.drop_succ_cons, List.drop_zero]
    rw [List.take_of_length_le (by simp)]
theorem cutm (l : List Nat) : cutS (tx l) none (some (-1)) = tx l.dropLast := by
  unfold cutS
  rw [tx_len, tx_list, HT.sIx_none]
  have e : HT.sIx l.length l.length (some (-1)) = l.length - 1 := by
    show (if (-1 : Int) < 0 then ((-1 : Int) + (l.length : Int)).toNat else min ((-1 : Int)).toNat l.length) = _
    rw [if_pos (by decide)]
    omega
  rw [e, List.drop_zero, Nat.sub_zero]
  unfold tx
  rw [← List.map_take, List.dropLast_eq_take]
/-- what may be asked as a table -/
structure Bt (d : D) : Prop where
  ty : tyB d = true
  rp : rpB d = true
theorem Bt.str {l : List Nat} (h : ∀ x ∈ l, x < 4) (hl : l.length ≤ 30) : Bt (.str (tx l)) :=
  ⟨decide_eq_true (by rw [tx_len]; omega), rp_str (dg_tx h) (by rw [tx_len]; exact hl)⟩
theorem Bt.lst {l : List Nat} (h : ∀ x ∈ l, x < 3) (hl : l.length ≤ 30) : Bt (.lst (l.map fun x => D.str (sg x))) := by
  have e : (l.map fun x => D.str (sg x)) = strL (l.map sg) := by
    unfold strL
    rw [List.map_map]
    rfl
  refine ⟨rfl, ?_⟩
  rw [e]
  refine rp_lstS (fun y hy => ?_) (fun y hy => ?_) (by rw [List.length_map]; omega)
  · obtain ⟨x, hx, rfl⟩ := List.mem_map.mp hy
    exact dg_tx (l := [x]) fun z hz => by have := h x hx; simp at hz; omega
  · obtain ⟨x, hx, rfl⟩ := List.mem_map.mp hy
    show 1 ≤ 30
    decide
noncomputable def oddL : List D := [.non, .bl true, .bl false, .int 0, .int 1, .int (-1), .int 7, .int 1000000000000000000000000000000000000000, .str "", .str "a", .str "012", .str "0123", .str "013", .str "set 0", .str "set", .str "turn", .str "up 120"] ++ ([
  .str "up", .tup [], .tup [.int 0], .tup [.int 0, .int 1], .tup [.int 1, .int 0], .tup [.int 0, .int 0], .tup [.bl true, .int 0], .tup [.int 0, .int 1, .int 2], .tup [.int 2, .int 1, .int 0], .tup [.str "012"], .tup [.str "up"]] ++ [
  .lst [], .lst [.int 0], .lst [.str "x"], .dic [] [], .dic [.inr "a"] [.int 0], .tup [.lst []], .tup [.non], .tup [.tup []], .tup [.str "all"], .tup [.str "keeps", .str "turn"], .tup [.str "makes", .str "111"],
  .tup [.str "alike", .str "a", .str "b"], .tup [.str "a", .tup [.str "all"]], .tup [.bl true]])
theorem odd_ok : ∀ i : _root_.Fin 42, (tyB (oddL.getD i.val .non) && rpB (oddL.getD i.val .non)) = true := by decide +kernel
theorem odd_bt {d : D} (h : d ∈ oddL) : Bt d := by
  obtain ⟨i, hi, rfl⟩ := List.getElem_of_mem h
  have hi' : i < 42 := hi
  have := odd_ok ⟨i, hi'⟩
  rw [Bool.and_eq_true] at this
  have e : oddL.getD i .non = oddL[i] := by rw [List.getD_eq_getElem?_getD, List.getElem?_eq_getElem hi]; rfl
  rw [e] at this
  exact ⟨this.1, this.2⟩
theorem c_odd (p q r : Int) : ∃ d ∈ oddL, ∃ p' q' r', m__law_odd [.ref 0] [spr p q r] = .ok (.val d) [spr p' q' r'] := by
  obtain ⟨d, hd, p', q', r', e⟩ := k_of [spr p q r] 0 p q r oddL rfl (by decide) (by decide)
  refine ⟨d, hd, p', q', r', ?_⟩
  simp only [oddL, List.cons_append, List.nil_append] at e
  unfold m__law_odd b__law_odd runF
  have z : fPow (.val (.int 10)) (.val (.int 39)) = fun S => .ok (.val (.int 1000000000000000000000000000000000000000)) S := by funext S; rfl
  have z2 : ∀ S, fNeg (.val (.int 1)) S = .ok (.val (.int (-1))) S := fun S => rfl
  simp [z, z2, e, cDic0, cDicC, szOk]
theorem k_odd (S : Store) (i : Nat) (p q r : Int) (hi : S[i]? = some (spr p q r)) : ∃ d p' q' r', Bt d ∧ callIn false m__law_odd [.ref i] S = .ok (.val d) (S.set i (spr p' q' r')) := by
  obtain ⟨d, hd, p', q', r', e⟩ := c_odd p q r
  exact ⟨d, p', q', r', odd_bt hd, call_one1 hi rfl e rfl⟩
theorem t_put {b d : D} (h : tyB b = true) (hr : rpB b = true) (hd : tysB d = true) (hrd : rpB d = true) (hn : isTb b = true → ∃ t, Tb t n ∧ b = .str (tx t)) : ∃ x, (∀ S, toldR t_law (callIn false m_put_together [.val b, .val d] S) = .ok (.val x) S) ∧ FitD x (dueP b d n) := by
  cases hb : isTb b with
  | true =>
    obtain ⟨t, ht, rfl⟩ := hn hb
    cases hp : p1B n d && p2B d with
    | false => exact ⟨erD 5 d, fun S => by rw [c_put ht hd S hp]; exact toldR_er (by decide) hrd, by unfold dueP; rw [hb, hp]; exact fit_er (by decide) hrd⟩
    | true =>
      rw [Bool.and_eq_true] at hp
      obtain ⟨ts, rfl, hl, hts⟩ := p1_ok hp.1
      have hp2 := hp.2
      cases ts with
      | nil =>
        have := ht.n1
        simp at hl
        omega
      | cons q r =>
        have hq := hts q List.mem_cons_self
        have hall : ∀ p ∈ q :: r, Tb p.1 q.2 := fun p hpm => by
          have hpp := hts p hpm
          have := List.all_eq_true.mp hp2 (SE.strT p.1) (List.mem_map.mpr ⟨p, hpm, rfl⟩)
          have e : (SE.strT p.1 : D) = SE.strT p.1 := rfl
          have h1 : lenD (SE.strT p.1) = lenD (SE.strT q.1) := of_decide_eq_true this
          rw [ln_strT, ln_strT, hpp.len, hq.len] at h1
          have h2 : p.2 = q.2 := by
            rcases hpp.cases with e | e | e <;> rcases hq.cases with e2 | e2 | e2 <;> rw [e, e2] at h1 ⊢ <;> simp at h1
          rw [← h2]
          exact hpp
        have htb : SE.Tbs ((q :: r).map (·.1)) n q.2 := ⟨fun u hu => by
          obtain ⟨p, hpm, rfl⟩ := List.mem_map.mp hu
          exact hall p hpm, by rw [List.length_map]; exact hl, hq.n1, hq.n3⟩
        have e := fun S => SE.k_put_together false ht htb S
        have hD : D.tup ((q :: r).map fun p => SE.strT p.1) = SE.tupS ((q :: r).map (·.1)) := by
          unfold SE.tupS
          rw [List.map_map]
          rfl
        have hdg := (SE.pt_tb ht htb).dg
        rw [hD]
        refine ⟨.lst [.str "told", .str (tx (SE.pt t ((q :: r).map (·.1)) q.2))], fun S => by rw [e]; rfl, ?_⟩
        rw [← hD]
        unfold dueP
        rw [hb, hp.1, hp.2]
        exact fit_val (okS_tx _ hdg).1 (okS_tx _ hdg).2
  | false => exact ⟨erD 2 b, fun S => by rw [x_put h hb]; exact toldR_er (by decide) hr, by unfold dueP; rw [hb]; exact fit_er (by decide) hr⟩
end T3
namespace T3
open PySem PySem.Spec PyProof.Rows L2
variable {s t : List Nat} {n : Nat}
noncomputable def argL (a : List Nat) : List D := [tupN a, tupN a, tupN (a ++ [0]), tupN (a.drop 1), .lst (a.map nD), .tup (.bl true :: (a.drop 1).map nD), tupN (3 :: a.drop 1), .non]
theorem arg_ok1 : ∀ n : _root_.Fin 4, ∀ i : _root_.Fin 27, ∀ k : _root_.Fin 8, (tysB ((argL ((allA n.val).getD i.val [])).getD k.val .non) && rpB ((argL ((allA n.val).getD i.val [])).getD k.val .non)) = true := by decide +kernel
theorem arg_ok (hn : n ≤ 3) {a : List Nat} (ha : Dg a) (hl : a.length = n) {d : D} (hd : d ∈ argL a) : tysB d = true ∧ rpB d = true := by
  have hm := SE.allA_in hn ha hl
  obtain ⟨i, hi, e⟩ := List.getElem_of_mem hm
  obtain ⟨k, hk, e2⟩ := List.getElem_of_mem hd
  have hi' : i < 27 := by have := (Nat.le_trans (Nat.pow_le_pow_right (by decide) hn) (by decide) : 3 ^ n ≤ 27); rw [SE.allA_len n hn] at hi; omega
  have := arg_ok1 ⟨n, by omega⟩ ⟨i, hi'⟩ ⟨k, hk⟩
  have e3 : (allA n).getD i [] = a := by rw [List.getD_eq_getElem?_getD, List.getElem?_eq_getElem hi, ← e]; rfl
  simp only [e3] at this
  have e4 : (argL a).getD k .non = d := by rw [List.getD_eq_getElem?_getD, List.getElem?_eq_getElem hk, ← e2]; rfl
  rw [e4, Bool.and_eq_true] at this
  exact this
noncomputable def putL (ts : List (List Nat)) : List D := [.tup (ts.map SE.strT), .tup (ts.map SE.strT), .tup ((ts.drop 1).map SE.strT), .lst (ts.map SE.strT), .tup (ts.dropLast.map SE.strT ++ [.str "000000000"]), .tup (ts.dropLast.map SE.strT ++ [.str "0123"]), .non]
theorem strL_T (ts : List (List Nat)) : ts.map SE.strT = strL (ts.map tx) := by
  unfold strL
  rw [List.map_map]
  rfl
theorem put_ok {ts : List (List Nat)} (h : ∀ u ∈ ts, Tb u 1) (hl : ts.length ≤ 3) {d : D} (hd : d ∈ putL ts) : tysB d = true ∧ rpB d = true := by
  have hx : ∀ us : List (List Nat), (∀ u ∈ us, u ∈ ts) → ∀ x ∈ us.map tx, dgS x = true ∧ x.length ≤ 30 := fun us hu x hx => by
    obtain ⟨u, hm, rfl⟩ := List.mem_map.mp hx
    have ht := h u (hu u hm)
    exact ⟨dg_tx fun y hy => by have := ht.dg y hy; omega, by rw [tx_len]; have := ht.le; omega⟩
  have ty : ∀ xs : List Str, (∀ x ∈ xs, x.length ≤ 30) → xs.length ≤ 100 → tysB (.tup (strL xs)) = true := fun xs hxs hn => by
    show ((strL xs).all tyB && decide ((strL xs).length ≤ 1000)) = true
    rw [Bool.and_eq_true, decide_eq_true_eq, List.all_eq_true]
    refine ⟨fun d hd => ?_, by unfold strL; rw [List.length_map]; omega⟩
    obtain ⟨x, hx, rfl⟩ := List.mem_map.mp hd
    exact decide_eq_true (by have := hxs x hx; omega)
  have full : ∀ xs : List Str, (∀ x ∈ xs, dgS x = true ∧ x.length ≤ 30) → xs.length ≤ 100 → tysB (.tup (strL xs)) = true ∧ rpB (.tup (strL xs)) = true := fun xs h hn => ⟨ty xs (fun x hx => (h x hx).2) hn, rp_tupS (fun x hx => (h x hx).1) (fun x hx => (h x hx).2) hn⟩
  have app : ∀ (us : List (List Nat)) (y : Str), us.map SE.strT ++ [.str y] = strL (us.map tx ++ [y]) := fun us y => by
    rw [strL_T]
    unfold strL
    rw [List.map_append]
    rfl
  have hy : ∀ (us : List (List Nat)) (y : Str), (∀ u ∈ us, u ∈ ts) → us.length ≤ 3 → dgS y = true → y.length ≤ 30 → tysB (.tup (us.map SE.strT ++ [.str y])) = true ∧ rpB (.tup (us.map SE.strT ++ [.str y])) = true := fun us y hu hus h1 h2 => by
    rw [app]
    refine full _ (fun x hxm => ?_) (by rw [List.length_append, List.length_map]; simp; omega)
    rcases List.mem_append.mp hxm with hxm | hxm
    · exact hx us hu x hxm
    · rw [List.mem_singleton.mp hxm]; exact ⟨h1, h2⟩
  unfold putL at hd
  simp only [List.mem_cons, List.not_mem_nil, or_false] at hd
  rcases hd with rfl | rfl | rfl | rfl | rfl | rfl | rfl
  · rw [strL_T]; exact full _ (hx ts fun u h => h) (by rw [List.length_map]; omega)
  · rw [strL_T]; exact full _ (hx ts fun u h => h) (by rw [List.length_map]; omega)
  · rw [strL_T]; exact full _ (hx _ fun u h => List.mem_of_mem_drop h) (by rw [List.length_map, List.length_drop]; omega)
  · rw [strL_T]
    exact ⟨rfl, rp_lstS (fun x hm => (hx ts (fun u h => h) x hm).1) (fun x hm => (hx ts (fun u h => h) x hm).2) (by rw [List.length_map]; omega)⟩
  · exact hy _ _ (fun u h => List.dropLast_subset _ h) (by rw [List.length_dropLast]; omega) (by decide +kernel) (by decide)
  · exact hy _ _ (fun u h => List.dropLast_subset _ h) (by rw [List.length_dropLast]; omega) (by decide +kernel) (by decide)
  · exact ⟨rfl, by decide +kernel⟩
end T3
namespace T3
open PySem PySem.Spec PyProof.Rows L2
variable {s t : List Nat} {n : Nat}
noncomputable def cMenB04 : CE := cLst true (cCons (cV 3) (cCons (cV 3) (cCons (cV 3) (cCons (cBin (fAdd true) (cV 3) (cS "0")) (cCons (cSl true (cV 3) (some (cI 1)) none) (cCons (cBin (fAdd true) (cSl true (cV 3) none (some (cUn fNeg (cI 1)))) (cS "3")) (cCons (cB1 (fList2 true) (cCons (cV 3) (cNil))) (cCons (cCall 1 false m__law_odd (cCons (cV 0) (cNil))) (cNil)))))))))
noncomputable def cSize04 : CE := cIf (cTru (cCall 1 false m__law_is_table (cCons (cV 4) (cNil)))) (cCall 1 false m__law_places (cCons (cV 4) (cNil))) (cV 2)
noncomputable def cArg04 : CE := cB1 (fTuple) (cCons (cLc true [14] (ciR1 (cV 2)) (tgName 14) (cYes) (cCall 2 false m__law_draw (cCons (cV 0) (cCons (cI 3) (cNil))))) (cNil))
noncomputable def cMenA04 : CE := cLst true (cCons (cV 5) (cCons (cV 5) (cCons (cBin (fAdd true) (cV 5) (cTup (cCons (cI 0) (cNil)))) (cCons (cSl true (cV 5) (some (cI 1)) none) (cCons (cB1 (fList2 true) (cCons (cV 5) (cNil))) (cCons (cBin (fAdd true) (cTup (cCons (cB true) (cNil))) (cSl true (cV 5) (some (cI 1)) none)) (cCons (cBin (fAdd true) (cTup (cCons (cI 3) (cNil))) (cSl true (cV 5) (some (cI 1)) none)) (cCons (cN) (cNil)))))))))
noncomputable def cMenO04 : CE := cLst true (cCons (cTup (cCons (cI 0) (cCons (cI 1) (cCons (cI 2) (cNil))))) (cCons (cTup (cCons (cI 2) (cCons (cI 0) (cCons (cI 1) (cNil))))) (cCons (cTup (cCons (cI 0) (cCons (cI 1) (cNil)))) (cCons (cTup (cCons (cI 0) (cCons (cI 0) (cCons (cI 1) (cNil))))) (cCons (cLst true (cCons (cI 0) (cCons (cI 1) (cCons (cI 2) (cNil))))) (cCons (cTup (cCons (cI 1) (cCons (cI 2) (cCons (cI 3) (cNil))))) (cCons (cTup (cCons (cI 0) (cCons (cB true) (cCons (cI 2) (cNil))))) (cCons (cN) (cCons (cTup (cCons (cI 0) (cNil))) (cCons (cTup (cCons (cI 1) (cCons (cI 0) (cNil)))) (cNil)))))))))))
noncomputable def cTab04 : CE := cB1 (fTuple) (cCons (cLc true [14] (ciR1 (cV 2)) (tgName 14) (cYes) (cCall 2 false m__law_table (cCons (cV 0) (cCons (cI 1) (cNil))))) (cNil))
noncomputable def cMenP04 : CE := cLst true (cCons (cV 8) (cCons (cV 8) (cCons (cSl true (cV 8) (some (cI 1)) none) (cCons (cB1 (fList2 true) (cCons (cV 8) (cNil))) (cCons (cBin (fAdd true) (cSl true (cV 8) none (some (cUn fNeg (cI 1)))) (cTup (cCons (cS "000000000") (cNil)))) (cCons (cBin (fAdd true) (cSl true (cV 8) none (some (cUn fNeg (cI 1)))) (cTup (cCons (cS "0123") (cNil)))) (cCons (cN) (cNil))))))))
noncomputable def cFit04 : CE := cAnd (cIsi "tuple" (cV 5)) (cAnd (cBin fEq (cB1 (fLen) (cCons (cV 5) (cNil))) (cV 2)) (cB1 (fAll) (cCons (cLcV true [16] (cV 5) (tgName 16) (cYes) (cCall 3 false m__law_is_whole (cCons (cV 16) (cCons (cI 0) (cCons (cI 2) (cNil)))))) (cNil))))
noncomputable def cP104 : CE := cAnd (cIsi "tuple" (cV 8)) (cAnd (cBin fEq (cB1 (fLen) (cCons (cV 8) (cNil))) (cV 2)) (cB1 (fAll) (cCons (cLcV true [16] (cV 8) (tgName 16) (cYes) (cCall 1 false m__law_is_table (cCons (cV 16) (cNil)))) (cNil))))
noncomputable def cP204 : CE := cAnd (cV 11) (cB1 (fAll) (cCons (cLcV true [16] (cV 8) (tgName 16) (cYes) (cBin fEq (cB1 (fLen) (cCons (cV 16) (cNil))) (cB1 (fLen) (cCons (cBin fIx (cV 8) (cI 0)) (cNil))))) (cNil)))
noncomputable def cTo504 : CE := cLc false [15] (ciV (cLst true (cCons (cK (defD 2000)) (cCons (cK (defD 2001)) (cCons (cK (defD 2002)) (cCons (cK (defD 2003)) (cCons (cK (defD 2004)) (cNil)))))))) (tgName 15) (cYes) (cTold t_law (cCallV tbl_1 1 false (cV 15) (cCons (cV 4) (cNil))))
noncomputable def sLoop04 : CS := sFor (ciR1 (cI 9)) (tgName 14) (sIf (cAnd (cBin fNe (cBin fIx (cV 12) (cV 14)) (cBin fIx (cV 13) (cV 14))) (cOr (cBin fNe (cBin fIx (cV 13) (cV 14)) (cLst true (cNil))) (cBin fNe (cBin fIx (cBin fIx (cV 12) (cV 14)) (cI 0)) (cS "told")))) (sRet (cB false)) (sNil))
theorem b04 : b__law_right = sSeq (sFor (ciR1 (cI 5)) (tgName 1) (sSeq (sAsg (tgName 2) (cCall 2 false m__law_of (cCons (cV 0) (cCons (cLst true (cCons (cI 1) (cCons (cI 2) (cCons (cI 3) (cNil))))) (cNil))))) (sSeq (sAsg (tgName 3) (cCall 2 false m__law_table (cCons (cV 0) (cCons (cV 2) (cNil))))) (sSeq (sAsg (tgName 4) (cCall 2 false m__law_of (cCons (cV 0) (cCons cMenB04 (cNil))))) (sSeq (sAsg (tgName 2) cSize04) (sSeq (sAsg (tgName 5) cArg04) (sSeq (sAsg (tgName 6) cMenA04) (sSeq (sAsg (tgName 5) (cCall 2 false m__law_of (cCons (cV 0) (cCons (cV 6) (cNil))))) (sSeq (sAsg (tgName 6) cMenO04) (sSeq (sAsg (tgName 7) (cCall 2 false m__law_of (cCons (cV 0) (cCons (cV 6) (cNil))))) (sSeq (sAsg (tgName 8) cTab04) (sSeq (sAsg (tgName 8) (cCall 2 false m__law_of (cCons (cV 0) (cCons cMenP04 (cNil))))) (sSeq (sAsg (tgName 9) (cCall 3 false m__law_wrong (cCons (cCall 1 false m__law_is_table (cCons (cV 4) (cNil))) (cCons (cS "InvalidTable") (cCons (cV 4) (cNil)))))) (sSeq (sAsg (tgName 10) cFit04) (sSeq (sAsg (tgName 11) cP104) (sSeq (sAsg (tgName 11) cP204) (sSeq (sAsg (tgName 12) cTo504) (sSeq (sExp (cMt tyL fAppend (cV 12) (cCons (cTold t_law (cCall 2 false m_value (cCons (cV 4) (cCons (cV 5) (cNil))))) cNil))) (sSeq (sExp (cMt tyL fAppend (cV 12) (cCons (cTold t_law (cCall 2 false m_renamed (cCons (cV 4) (cCons (cV 7) (cNil))))) cNil))) (sSeq (sExp (cMt tyL fAppend (cV 12) (cCons (cTold t_law (cCall 2 false m_turned_round (cCons (cV 4) (cCons (cV 7) (cNil))))) cNil))) (sSeq (sExp (cMt tyL fAppend (cV 12) (cCons (cTold t_law (cCall 2 false m_put_together (cCons (cV 4) (cCons (cV 8) (cNil))))) cNil))) (sSeq (sAsg (tgName 13) (cBin (fAdd false) (cBin (fMul true) (cLst true (cCons (cV 9) (cNil))) (cI 5)) (cLst true (cCons (cCall 1 false m__law_first (cCons (cLst true (cCons (cV 9) (cCons (cCall 3 false m__law_wrong (cCons (cV 10) (cCons (cS "InvalidArguments") (cCons (cV 5) (cNil))))) (cNil)))) (cNil))) (cNil))))) (sSeq (sExp (cMt tyL fAppend (cV 13) (cCons (cCall 1 false m__law_first (cCons (cLst true (cCons (cV 9) (cCons (cCall 3 false m__law_wrong (cCons (cCall 2 false m__law_is_order (cCons (cV 7) (cCons (cI 3) (cNil)))) (cCons (cS "InvalidOrder") (cCons (cV 7) (cNil))))) (cNil)))) (cNil))) cNil))) (sSeq (sExp (cMt tyL fAppend (cV 13) (cCons (cCall 1 false m__law_first (cCons (cLst true (cCons (cV 9) (cCons (cCall 3 false m__law_wrong (cCons (cCall 2 false m__law_is_order (cCons (cV 7) (cCons (cV 2) (cNil)))) (cCons (cS "InvalidOrder") (cCons (cV 7) (cNil))))) (cNil)))) (cNil))) cNil))) (sSeq (sExp (cMt tyL fAppend (cV 13) (cCons (cCall 1 false m__law_first (cCons (cLst true (cCons (cV 9) (cCons (cCall 3 false m__law_wrong (cCons (cV 11) (cCons (cS "InvalidTables") (cCons (cV 8) (cNil))))) (cNil)))) (cNil))) cNil))) sLoop04))))))))))))))))))))))))) (sRet (cB true)) := rfl
variable {z0 z1 z2 z3 z4 z5 z6 z7 z8 z9 z10 z11 z12 z13 z14 z15 z16 : Option A}
theorem l_size {b : D} (hb : Bt b) (h1 : 1 ≤ n) (h3 : n ≤ 3) : ∃ m, (1 ≤ m ∧ m ≤ 3) ∧ (isTb b = true → ∃ t, Tb t m ∧ b = .str (tx t)) ∧ ∀ z0 z1 z3 z5 z6 z7 z8 z9 z10 z11 z12 z13 z14 z15 z16 S, cSize04 [z0, z1, some (.val (.int (n : Nat))), z3, some (.val b), z5, z6, z7, z8, z9, z10, z11, z12, z13, z14, z15, z16] S = .ok (.val (.int (m : Nat))) S := by
  have e := fun S => k_lawT hb.ty S
  cases h : isTb b with
  | true =>
    rw [h] at e
    obtain ⟨t, m, ht, rfl⟩ := isTb_ok h
    refine ⟨m, ⟨ht.n1, ht.n3⟩, fun _ => ⟨t, ht, rfl⟩, fun z0 z1 z3 z5 z6 z7 z8 z9 z10 z11 z12 z13 z14 z15 z16 S => ?_⟩
    have e2 := fun S => k_places ht S
    unfold cSize04
    simp [e, e2]
    rfl
  | false =>
    rw [h] at e
    refine ⟨n, ⟨h1, h3⟩, (fun z => by cases z), fun z0 z1 z3 z5 z6 z7 z8 z9 z10 z11 z12 z13 z14 z15 z16 S => ?_⟩
    unfold cSize04
    simp [e]
theorem l_menB (h : Tb t n) (p q r : Int) (R : Store) : ∃ ds p' q' r', (∀ d ∈ ds, Bt d) ∧ 0 < ds.length ∧ ds.length ≤ 1000 ∧ cMenB04 [some (.ref 0), z1, z2, some (.val (.str (tx t))), z4, z5, z6, z7, z8, z9, z10, z11, z12, z13, z14, z15, z16] (spr p q r :: R) = .ok (.val (.lst ds)) (spr p' q' r' :: R) := by
  obtain ⟨d, p', q', r', hd, e⟩ := k_odd (spr p q r :: R) 0 p q r rfl
  have hl := h.le
  have h3 : ∀ x ∈ t, x < 4 := fun x hx => by have := h.dg x hx; omega
  refine ⟨[.str (tx t), .str (tx t), .str (tx t), .str (tx (t ++ [0])), .str (tx (t.drop 1)), .str (tx (t.dropLast ++ [3])), .lst (t.map fun x => .str (sg x)), d], p', q', r', fun y hy => ?_, by simp, by simp, ?_⟩
  · simp only [List.mem_cons, List.not_mem_nil, or_false] at hy
    rcases hy with rfl | rfl | rfl | rfl | rfl | rfl | rfl | rfl
    · exact Bt.str h3 (by omega)
    · exact Bt.str h3 (by omega)
    · exact Bt.str h3 (by omega)
    · exact Bt.str (fun x hx => by rcases List.mem_append.mp hx with hx | hx; exact h3 x hx; simp at hx; omega) (by rw [List.length_append]; simp; omega)
    · exact Bt.str (fun x hx => h3 x (List.mem_of_mem_drop hx)) (by rw [List.length_drop]; omega)
    · exact Bt.str (fun x hx => by rcases List.mem_append.mp hx with hx | hx; exact h3 x (List.dropLast_subset _ hx); simp at hx; omega) (by rw [List.length_append, List.length_dropLast]; simp; omega)
    · exact Bt.lst h.dg (by omega)
    · exact hd
  · have a1 : ("0" : Str) = sg 0 := by decide +kernel
    have a3 : ("3" : Str) = sg 3 := by decide +kernel
    have g1 : tx t ++ ("0" : Str) = tx (t ++ [0]) := by rw [a1]; exact SE.tx_snoc t 0
    have g3 : tx t.dropLast ++ ("3" : Str) = tx (t.dropLast ++ [3]) := by rw [a3]; exact SE.tx_snoc t.dropLast 3
    have y1 : szOk (tx t).length = true := szOk_le (by rw [tx_len]; omega)
    have y2 : szOk ((tx t).length + ("0" : Str).length) = true := szOk_le (by rw [tx_len]; show t.length + 1 ≤ 1000; omega)
    have y3 : szOk ((tx t.dropLast).length + ("3" : Str).length) = true := szOk_le (by rw [tx_len, List.length_dropLast]; show t.length - 1 + 1 ≤ 1000; omega)
    have y4 : szOk t.length = true := szOk_le (by omega)
    have c1 := cut1 t
    have c2 := cutm t
    have fa1 : ∀ S, fAdd true (.val (.str (tx t))) (.val (.str "0")) S = .ok (.val (.str (tx (t ++ [0])))) S := fun S => by
      show (if szOk ((tx t).length + ("0" : Str).length) then Res.ok (.val (.str (tx t ++ ("0" : Str)))) S else .bad) = _
      rw [y2, g1]
      rfl
    have fa4 : ∀ S, fAdd true (.val (.str (tx t.dropLast))) (.val (.str "3")) S = .ok (.val (.str (tx (t.dropLast ++ [3])))) S := fun S => by
      show (if szOk ((tx t.dropLast).length + ("3" : Str).length) then Res.ok (.val (.str (tx t.dropLast ++ ("3" : Str)))) S else .bad) = _
      rw [y3, g3]
      rfl
    have nn : ∀ S, fNeg (.val (.int 1)) S = .ok (.val (.int (-1))) S := fun S => rfl
    unfold cMenB04
    simp [fa1, fa4, nn, y1, c1, c2, e, signs_tx, y4]
theorem lc_args (ρ : Slots) (hρ : ρ.length = 17) (h0 : ρ[0]? = some (some (.ref 0))) (m : Nat) (hm : m ≤ 1000) (p q r : Int) (R : Store) : ∃ a p' q' r', Dg a ∧ a.length = m ∧
    lcGo (elm (tgName 14) cYes (cCall 2 false m__law_draw (cCons (cV 0) (cCons (cI 3) cNil))) ρ) (rangeD 0 m) (spr p q r :: R) = some (a.map nD, spr p' q' r' :: R) := by
  obtain ⟨ys, S', e, a, p', q', r', ha, hl, rfl, rfl⟩ := lcGo_inv (f := elm (tgName 14) cYes (cCall 2 false m__law_draw (cCons (cV 0) (cCons (cI 3) cNil))) ρ) (S := spr p q r :: R) (fun i acc S => ∃ a p q r, Dg a ∧ a.length = i ∧ acc = a.map nD ∧ S = spr p q r :: R) (ds := rangeD 0 m) ⟨[], p, q, r, (fun x hx => by cases hx), rfl, rfl, rfl⟩ (by
    rintro i d acc S hd ⟨a, p, q, r, ha, hl, rfl, rfl⟩
    obtain ⟨k, p', q', r', k0, k3, e⟩ := k_draw (spr p q r :: R) 0 p q r 3 rfl (by decide) (by decide)
    have e0 : (ρ.set 14 (some (.val d)))[0]? = some (some (.ref 0)) := by rw [List.getElem?_set_ne (by decide)]; exact h0
    refine ⟨.int k, spr p' q' r' :: R, by simp [e0, e], a ++ [k.toNat], p', q', r', fun x hx => ?_, by simp [hl], ?_, rfl⟩
    · rcases List.mem_append.mp hx with hx | hx
      · exact ha x hx
      · simp at hx; omega
    · rw [List.map_append]
      show _ = _ ++ [nD k.toNat]
      unfold nD
      rw [show ((k.toNat : Nat) : Int) = k by omega])
  exact ⟨a, p', q', r', ha, by rw [hl]; simp [rangeD], e⟩
theorem lc_tabs (ρ : Slots) (hρ : ρ.length = 17) (h0 : ρ[0]? = some (some (.ref 0))) (m : Nat) (hm : m ≤ 1000) (p q r : Int) (R : Store) : ∃ (ts : List (List Nat)) (p' q' r' : Int), (∀ u ∈ ts, Tb u 1) ∧ ts.length = m ∧
    lcGo (elm (tgName 14) cYes (cCall 2 false m__law_table (cCons (cV 0) (cCons (cI 1) cNil))) ρ) (rangeD 0 m) (spr p q r :: R) = some (ts.map SE.strT, spr p' q' r' :: R) := by
  obtain ⟨ys, S', e, ts, p', q', r', ha, hl, rfl, rfl⟩ := lcGo_inv (f := elm (tgName 14) cYes (cCall 2 false m__law_table (cCons (cV 0) (cCons (cI 1) cNil))) ρ) (S := spr p q r :: R) (fun i acc S => ∃ (ts : List (List Nat)) (p q r : Int), (∀ u ∈ ts, Tb u 1) ∧ ts.length = i ∧ acc = ts.map SE.strT ∧ S = spr p q r :: R) (ds := rangeD 0 m) ⟨[], p, q, r, (fun x hx => by cases hx), rfl, rfl, rfl⟩ (by
    rintro i d acc S hd ⟨ts, p, q, r, ha, hl, rfl, rfl⟩
    obtain ⟨u, p', q', r', hu, e⟩ := k_table (spr p q r :: R) 0 p q r 1 rfl (by decide) (by decide)
    have e0 : (ρ.set 14 (some (.val d)))[0]? = some (some (.ref 0)) := by rw [List.getElem?_set_ne (by decide)]; exact h0
    change callIn false m__law_table [.ref 0, .val (.int 1)] _ = _ at e
    refine ⟨.str (tx u), spr p' q' r' :: R, by simp [e0, e], ts ++ [u], p', q', r', fun x hx => ?_, by simp [hl], ?_, rfl⟩
    · rcases List.mem_append.mp hx with hx | hx
      · exact ha x hx
      · simp at hx; rw [hx]; exact hu
    · rw [List.map_append]
      rfl)
  exact ⟨ts, p', q', r', ha, by rw [hl]; simp [rangeD], e⟩
theorem l_arg (h3 : n ≤ 3) (p q r : Int) (R : Store) : ∃ a p' q' r', Dg a ∧ a.length = n ∧ cArg04 [some (.ref 0), z1, some (.val (.int (n : Nat))), z3, z4, z5, z6, z7, z8, z9, z10, z11, z12, z13, z14, z15, z16] (spr p q r :: R) = .ok (.val (tupN a)) (spr p' q' r' :: R) := by
  obtain ⟨a, p', q', r', ha, hl, e⟩ := lc_args [some (.ref 0), z1, some (.val (.int (n : Nat))), z3, z4, z5, z6, z7, z8, z9, z10, z11, z12, z13, none, z15, z16] rfl rfl n (by omega) p q r R
  refine ⟨a, p', q', r', ha, hl, ?_⟩
  have w : (n : Int) ≤ 1000000 := by omega
  have y : szOk a.length = true := szOk_le (by omega)
  unfold cArg04
  simp [w, e, y]
  rfl
theorem l_tab (h3 : n ≤ 3) (p q r : Int) (R : Store) : ∃ (ts : List (List Nat)) (p' q' r' : Int), (∀ u ∈ ts, Tb u 1) ∧ ts.length = n ∧ cTab04 [some (.ref 0), z1, some (.val (.int (n : Nat))), z3, z4, z5, z6, z7, z8, z9, z10, z11, z12, z13, z14, z15, z16] (spr p q r :: R) = .ok (.val (.tup (ts.map SE.strT))) (spr p' q' r' :: R) := by
  obtain ⟨ts, p', q', r', ha, hl, e⟩ := lc_tabs [some (.ref 0), z1, some (.val (.int (n : Nat))), z3, z4, z5, z6, z7, z8, z9, z10, z11, z12, z13, none, z15, z16] rfl rfl n (by omega) p q r R
  refine ⟨ts, p', q', r', ha, hl, ?_⟩
  have w : (n : Int) ≤ 1000000 := by omega
  have y : szOk ts.length = true := szOk_le (by omega)
  unfold cTab04
  simp [w, e, y]
theorem cutD1 (ds : List D) : cutD ds (some 1) none = ds.drop 1 := by
  unfold cutD
  rw [HT.sIx_none, show (some (1 : Int)) = some ((1 : Nat) : Int) from rfl, HT.sIx_nat]
  cases ds with
  | nil => rfl
  | cons x r =>
    have e : min 1 (x :: r).length = 1 := by simp
    rw [e, List.take_of_length_le (by simp)]
theorem cutDm (ds : List D) : cutD ds none (some (-1)) = ds.dropLast := by
  unfold cutD
  rw [HT.sIx_none]
  have e : HT.sIx ds.length ds.length (some (-1)) = ds.length - 1 := by
    show (if (-1 : Int) < 0 then ((-1 : Int) + (ds.length : Int)).toNat else min ((-1 : Int)).toNat ds.length) = _
    rw [if_pos (by decide)]
    omega
  rw [e, List.drop_zero, Nat.sub_zero, List.dropLast_eq_take]
theorem l_menA {a : List Nat} (hl : a.length ≤ 3) (S : Store) : cMenA04 [z0, z1, z2, z3, z4, some (.val (tupN a)), z6, z7, z8, z9, z10, z11, z12, z13, z14, z15, z16] S = .ok (.val (.lst (argL a))) S := by
  have y1 : szOk a.length = true := szOk_le (by omega)
  have y2 : szOk (a.length + 1) = true := szOk_le (by omega)
  have y3 : szOk (1 + (a.length - 1)) = true := szOk_le (by omega)
  have y4 : szOk (a.length - 1) = true := szOk_le (by omega)
  unfold cMenA04 tupN
  simp [cutD1, y1, y2, y3, y4, argL, tupN]
  exact ⟨rfl, rfl⟩
theorem l_menO (S : Store) : cMenO04 [z0, z1, z2, z3, z4, z5, z6, z7, z8, z9, z10, z11, z12, z13, z14, z15, z16] S = .ok (.val (.lst ordL)) S := by
  unfold cMenO04
  simp
  rfl
theorem l_menP {ts : List (List Nat)} (hl : ts.length ≤ 3) (S : Store) : cMenP04 [z0, z1, z2, z3, z4, z5, z6, z7, some (.val (.tup (ts.map SE.strT))), z9, z10, z11, z12, z13, z14, z15, z16] S = .ok (.val (.lst (putL ts))) S := by
  have y1 : szOk ts.length = true := szOk_le (by omega)
  have y2 : szOk (ts.length - 1 + 1) = true := szOk_le (by omega)
  have y4 : szOk (ts.length - 1) = true := szOk_le (by omega)
  have nn : ∀ S, fNeg (.val (.int 1)) S = .ok (.val (.int (-1))) S := fun S => rfl
  unfold cMenP04
  simp [cutD1, cutDm, nn, y1, y2, y4, putL]
theorem l_fit {y : D} (hy : tysB y = true) (S : Store) : cFit04 [z0, z1, some (.val (.int (n : Nat))), z3, z4, some (.val y), z6, z7, z8, z9, z10, z11, z12, z13, z14, z15, z16] S = .ok (.val (.bl (fitB n y))) S := by
  unfold cFit04
  cases y with
  | tup ds =>
    have h' : ds.all tyB = true ∧ ds.length ≤ 1000 := by simpa [tysB] using hy
    have hz : szOk ds.length = true := szOk_le h'.2
    have key : ∀ S, lcGo (elm (tgName 16) cYes (cCall 3 false m__law_is_whole (cCons (cV 16) (cCons (cI 0) (cCons (cI 2) cNil)))) [z0, z1, some (.val (.int (n : Nat))), z3, z4, some (.val (.tup ds)), z6, z7, z8, z9, z10, z11, z12, z13, z14, z15, none]) ds S = some (ds.map fun x => D.bl (wholeB 0 2 x), S) := fun S =>
      lc_tys (wholeB 0 2) 16 _ _ ds S fun x hx => by
        have e := fun S => k_whole (List.all_eq_true.mp h'.1 x hx) 0 2 S
        simp [e]
    have ha := fun S => all_bools (wholeB 0 2) ds S
    have he := fun S => eq_nat ds.length n S
    cases hl : decide (ds.length = n) with
    | true => simp [tyD, subT, fitB, hz, key, ha, he, hl]
    | false => simp [tyD, subT, fitB, hz, key, ha, he, hl]
  | ins _ _ _ => cases hy
  | wt _ => cases hy
  | _ => simp [tyD, subT, fitB]
theorem l_p1 {y : D} (hy : tysB y = true) (S : Store) : cP104 [z0, z1, some (.val (.int (n : Nat))), z3, z4, z5, z6, z7, some (.val y), z9, z10, z11, z12, z13, z14, z15, z16] S = .ok (.val (.bl (p1B n y))) S := by
  unfold cP104
  cases y with
  | tup ds =>
    have h' : ds.all tyB = true ∧ ds.length ≤ 1000 := by simpa [tysB] using hy
    have hz : szOk ds.length = true := szOk_le h'.2
    have key : ∀ S, lcGo (elm (tgName 16) cYes (cCall 1 false m__law_is_table (cCons (cV 16) cNil)) [z0, z1, some (.val (.int (n : Nat))), z3, z4, z5, z6, z7, some (.val (.tup ds)), z9, z10, z11, z12, z13, z14, z15, none]) ds S = some (ds.map fun x => D.bl (isTb x), S) := fun S =>
      lc_tys isTb 16 _ _ ds S fun x hx => by
        have e := fun S => k_lawT (List.all_eq_true.mp h'.1 x hx) S
        simp [e]
    have ha := fun S => all_bools isTb ds S
    have he := fun S => eq_nat ds.length n S
    cases hl : decide (ds.length = n) with
    | true => simp [tyD, subT, p1B, hz, key, ha, he, hl]
    | false => simp [tyD, subT, p1B, hz, key, ha, he, hl]
  | ins _ _ _ => cases hy
  | wt _ => cases hy
  | _ => simp [tyD, subT, p1B]
theorem l_p2 {y : D} (hy : tysB y = true) (h1 : 1 ≤ n) (S : Store) : cP204 [z0, z1, z2, z3, z4, z5, z6, z7, some (.val y), z9, z10, some (.val (.bl (p1B n y))), z12, z13, z14, z15, z16] S = .ok (.val (.bl (p1B n y && p2B y))) S := by
  unfold cP204
  cases hp : p1B n y with
  | false => simp
  | true =>
    obtain ⟨ts, rfl, hl, hts⟩ := p1_ok hp
    cases ts with
    | nil => simp at hl; omega
    | cons q r =>
      have hz : szOk (q :: r).length = true := szOk_le (by
        have h' : ((q :: r).map fun p => SE.strT p.1).all tyB = true ∧ ((q :: r).map fun p => SE.strT p.1).length ≤ 1000 := by simpa only [tysB, Bool.and_eq_true, decide_eq_true_eq] using hy
        simpa using h'.2)
      have hq := hts q List.mem_cons_self
      have zq : szOk (tx q.1).length = true := szOk_le (by rw [tx_len]; have := hq.le; omega)
      have key : ∀ (ρ : Slots) S, ρ.length = 17 → ρ[8]? = some (some (.val (.tup ((q :: r).map fun p => SE.strT p.1)))) → lcGo (elm (tgName 16) cYes (cBin fEq (cB1 fLen (cCons (cV 16) cNil)) (cB1 fLen (cCons (cBin fIx (cV 8) (cI 0)) cNil))) ρ) ((q :: r).map fun p => SE.strT p.1) S = some (((q :: r).map fun p => SE.strT p.1).map fun x => D.bl (decide (lenD x = lenD (SE.strT q.1))), S) := fun ρ S hρ h8 =>
        lc_tys (fun x => decide (lenD x = lenD (SE.strT q.1))) 16 _ _ _ S fun x hx => by
          obtain ⟨p, hp, rfl⟩ := List.mem_map.mp hx
          have ht := hts p hp
          have e16 : (ρ.set 16 (some (.val (SE.strT p.1))))[16]? = some (some (.val (.str (tx p.1)))) := by rw [List.getElem?_set_self (by omega)]; rfl
          have e8 : (ρ.set 16 (some (.val (SE.strT p.1))))[8]? = some (some (.val (.tup ((q :: r).map fun p => SE.strT p.1)))) := by rw [List.getElem?_set_ne (by decide)]; exact h8
          have zp : szOk (tx p.1).length = true := szOk_le (by rw [tx_len]; have := ht.le; omega)
          have he := fun S => eq_nat (tx p.1).length (tx q.1).length S
          have hix : ∀ S, fIx (.val (.tup ((q :: r).map fun p => SE.strT p.1))) (.val (.int 0)) S = .ok (.val (.str (tx q.1))) S := fun S => by simp; rfl
          have h8' := h8
          simp only [List.map_cons, SE.strT] at hix h8' e16
          simp [e16, h8', zp, zq, he, hix, lenD, SE.strT]
          first | done | exact decide_eq_decide.mpr Iff.rfl
      have ha := fun S => all_bools (fun x => decide (lenD x = lenD (SE.strT q.1))) ((q :: r).map fun p => SE.strT p.1) S
      have hp2 : p2B (.tup ((q :: r).map fun p => SE.strT p.1)) = ((q :: r).map fun p => SE.strT p.1).all fun x => decide (lenD x = lenD (SE.strT q.1)) := rfl
      rw [hp2]
      have k2 := fun S => key [z0, z1, z2, z3, z4, z5, z6, z7, some (.val (.tup ((q :: r).map fun p => SE.strT p.1))), z9, z10, some (.val (.bl true)), z12, z13, z14, z15, none] S rfl rfl
      have hz' : szOk ((q :: r).map fun p => SE.strT p.1).length = true := by rw [List.length_map]; exact hz
      generalize hDD : (q :: r).map (fun p => SE.strT p.1) = DD at *
      simp [k2, hz', ha]
end T3
namespace T3
open PySem PySem.Spec PyProof.Rows L2
variable {s t : List Nat} {n : Nat}
variable {z0 z1 z2 z3 z4 z5 z6 z7 z8 z9 z10 z11 z12 z13 z14 z15 z16 : Option A}
theorem l_to5 {b : D} (hb : Bt b) : ∃ x1 x2 x3 x4 x5, FitD x1 (dueB b) ∧ FitD x2 (dueB b) ∧ FitD x3 (dueB b) ∧ FitD x4 (dueB b) ∧ FitD x5 (dueB b) ∧
    ∀ z0 z1 z2 z3 z5 z6 z7 z8 z9 z10 z11 z12 z13 z14 z15 z16 S, cTo504 [z0, z1, z2, z3, some (.val b), z5, z6, z7, z8, z9, z10, z11, z12, z13, z14, z15, z16] S = .ok (.ref S.length) (S ++ [.lst [x1, x2, x3, x4, x5]]) := by
  obtain ⟨x1, e1, f1⟩ := t_counting hb.ty hb.rp
  obtain ⟨x2, e2, f2⟩ := t_digits hb.ty hb.rp
  obtain ⟨x3, e3, f3⟩ := t_fixed hb.ty hb.rp
  obtain ⟨x4, e4, f4⟩ := t_onto hb.ty hb.rp
  obtain ⟨x5, e5, f5⟩ := t_places hb.ty hb.rp
  refine ⟨x1, x2, x3, x4, x5, f1, f2, f3, f4, f5, fun z0 z1 z2 z3 z5 z6 z7 z8 z9 z10 z11 z12 z13 z14 z15 z16 S => ?_⟩
  have y : szOk 5 = true := szOk_le (by decide)
  unfold cTo504
  simp [lcGo, defD, tbl_1, e1, e2, e3, e4, e5, y]
theorem app1 (o : O) (R : Store) (xs : List D) (d : D) (hx : xs.length ≤ 1000) : fAppend (.ref (R.length + 1)) [.val d] (o :: (R ++ [.lst xs])) = .ok (.val .non) (o :: (R ++ [.lst (xs ++ [d])])) := by
  have e : (o :: (R ++ [O.lst xs]))[R.length + 1]? = some (.lst xs) := by simp
  unfold fAppend
  simp only [e, szOk_le hx, if_true]
  simp
theorem app2 (o : O) (R : Store) (y : O) (xs : List D) (d : D) (hx : xs.length ≤ 1000) : fAppend (.ref (R.length + 1 + 1)) [.val d] (o :: (R ++ [y, .lst xs])) = .ok (.val .non) (o :: (R ++ [y, .lst (xs ++ [d])])) := by
  have e : (o :: (R ++ [y, O.lst xs]))[R.length + 1 + 1]? = some (.lst xs) := by simp
  unfold fAppend
  simp only [e, szOk_le hx, if_true]
  simp
/-- the judgement of one -/
theorem fit_ne {x y : D} (h : FitD x y) (S : Store) : (fNe (.val x) (.val y) S = .ok (.val (.bl false)) S) ∨ (fNe (.val x) (.val y) S = .ok (.val (.bl true)) S ∧ fNe (.val y) (.val (.lst [])) S = .ok (.val (.bl false)) S ∧ fIx (.val x) (.val (.int 0)) S = .ok (.val (.str "told")) S) := by
  rcases h with ⟨i, d, hi, hd, rfl, rfl⟩ | ⟨rfl, v, rfl, h1, h2⟩
  · left
    have e := er_shp hi hd
    show (if (shp (erD i d) && shp (erD i d)) = true then Res.ok (.val (.bl (!dEq (erD i d) (erD i d)))) S else .bad) = _
    rw [e]
    have : dEq (erD i d) (erD i d) = true := by simp [erD, dEq, dEqL]
    rw [this]
    rfl
  · right
    refine ⟨?_, rfl, by simp⟩
    have ht : PyData.strOk ("told" : Str) = true := by decide +kernel
    have e : shp (.lst [.str "told", v]) = true := by
      unfold shp
      have ho : dOk (.lst [.str "told", v]) = true := by
        show (PyData.strOk ("told" : Str) && (dOk v && true)) = true
        rw [ht, h1]
        rfl
      rw [ho]
      have hdp : dDep (.lst [.str "told", v]) ≤ 60 := by
        show max 0 (max (dDep v) 0) + 1 ≤ 60
        omega
      exact decide_eq_true hdp
    show (if (shp (.lst [.str "told", v]) && shp (.lst [])) = true then Res.ok (.val (.bl (!dEq (.lst [.str "told", v]) (.lst [])))) S else .bad) = _
    rw [e]
    rfl
theorem l_loop {ts ds : List D} (ht : ts.length = 9) (hd : ds.length = 9) (hf : ∀ (k : Nat) (x y : D), ts[k]? = some x → ds[k]? = some y → FitD x y) (o : O) (R : Store) : ∃ z, sLoop04 [z0, z1, z2, z3, z4, z5, z6, z7, z8, z9, z10, z11, some (.ref (R.length + 1)), some (.ref (R.length + 1 + 1)), z14, z15, z16] (o :: (R ++ [.lst ts, .lst ds])) = .nx [z0, z1, z2, z3, z4, z5, z6, z7, z8, z9, z10, z11, some (.ref (R.length + 1)), some (.ref (R.length + 1 + 1)), z, z15, z16] (o :: (R ++ [.lst ts, .lst ds])) := by
  unfold sLoop04
  simp
  generalize hq : forL _ _ _ _ = qq
  obtain ⟨ρ', S', rfl, ⟨z, rfl⟩, rfl⟩ := forL_q hq (fun i ρ S => (∃ z, ρ = [z0, z1, z2, z3, z4, z5, z6, z7, z8, z9, z10, z11, some (.ref (R.length + 1)), some (.ref (R.length + 1 + 1)), z, z15, z16]) ∧ S = o :: (R ++ [.lst ts, .lst ds])) ⟨⟨_, rfl⟩, rfl⟩ (by
    rintro i d ρ S hi ⟨⟨z, rfl⟩, rfl⟩
    have hi9 : i < 9 := by
      have := (List.getElem?_eq_some_iff.mp hi).1
      simpa [rangeD] using this
    have hdi : d = .int (i : Nat) := by
      have := hi
      rw [range_nD, List.getElem?_map, List.getElem?_range hi9] at this
      injection this with this
      rw [← this]
      rfl
    subst hdi
    obtain ⟨x, hx⟩ : ∃ x, ts[i]? = some x := ⟨_, List.getElem?_eq_getElem (by omega)⟩
    obtain ⟨y, hy⟩ : ∃ y, ds[i]? = some y := ⟨_, List.getElem?_eq_getElem (by omega)⟩
    have g1 : (o :: (R ++ [O.lst ts, O.lst ds]))[R.length + 1]? = some (.lst ts) := by simp
    have g2 : (o :: (R ++ [O.lst ts, O.lst ds]))[R.length + 1 + 1]? = some (.lst ds) := by simp
    have i1 : ixN ts.length (i : Int) = some i := ixN_nat (by omega)
    have i2 : ixN ds.length (i : Int) = some i := ixN_nat (by omega)
    have f1 : fIx (.ref (R.length + 1)) (.val (.int (i : Nat))) (o :: (R ++ [O.lst ts, O.lst ds])) = .ok (.val x) (o :: (R ++ [O.lst ts, O.lst ds])) := by
      unfold fIx
      simp [i1, hx]
    have f2 : fIx (.ref (R.length + 1 + 1)) (.val (.int (i : Nat))) (o :: (R ++ [O.lst ts, O.lst ds])) = .ok (.val y) (o :: (R ++ [O.lst ts, O.lst ds])) := by
      unfold fIx
      simp [i2, hy]
    refine ⟨_, _, ?_, ⟨some (.val (.int (i : Nat))), rfl⟩, rfl⟩
    rcases fit_ne (hf i x y hx hy) (o :: (R ++ [O.lst ts, O.lst ds])) with e | ⟨e1, e2, e3⟩
    · simp [f1, f2, e]
    · have t0 : ∀ S, fNe (.val (.str "told")) (.val (.str "told")) S = .ok (.val (.bl false)) S := fun S => by rw [ne_str]; rfl
      simp [f1, f2, e1, e2, e3, t0])
  exact ⟨z, rfl⟩
end T3
namespace T3
open PySem PySem.Spec PyProof.Rows L2
variable {s t : List Nat} {n : Nat}
theorem dueA_first {b y : D} : (if isNilD (dueB b) then (if fitB n y then D.lst [] else erD 4 y) else dueB b) = dueA b y n := by
  unfold dueA dueB
  cases isTb b <;> rfl
theorem dueO_first {b y : D} {w : Bool} : (if isNilD (dueB b) then (if w then D.lst [] else erD 6 y) else dueB b) = dueO b y w := by
  unfold dueO dueB
  cases isTb b <;> rfl
theorem dueP_first {b y : D} : (if isNilD (dueB b) then (if p1B n y && p2B y then D.lst [] else erD 5 y) else dueB b) = dueP b y n := by
  unfold dueP dueB
  cases isTb b <;> rfl
theorem if_due {w : Bool} {i : Nat} {d : D} (hi : i ∈ [2, 4, 5, 6]) (h : rpB d = true) : DueD (if w then .lst [] else erD i d) := by
  cases w
  · exact .inr ⟨i, d, hi, h, rfl⟩
  · exact .inl rfl
theorem c_right04 (p q r : Int) : ∃ p' q' r' S', m__law_right [.ref 0] [spr p q r] = .ok (.val (.bl true)) (spr p' q' r' :: S') := by
  unfold m__law_right runF
  rw [b04]
  simp
  generalize hq : forL _ _ _ _ = qq
  obtain ⟨ρ', S', rfl, ⟨z1, z2, z3, z4, z5, z6, z7, z8, z9, z10, z11, z12, z13, z14, z15, z16, rfl⟩, p', q', r', R, rfl⟩ := forL_q hq (fun i ρ S => (∃ z1 z2 z3 z4 z5 z6 z7 z8 z9 z10 z11 z12 z13 z14 z15 z16, ρ = [some (.ref 0), z1, z2, z3, z4, z5, z6, z7, z8, z9, z10, z11, z12, z13, z14, z15, z16]) ∧ ∃ p q r R, S = spr p q r :: R) ⟨⟨_, _, _, _, _, _, _, _, _, _, _, _, _, _, _, _, rfl⟩, _, _, _, [], rfl⟩ (by
    rintro i d ρ S hd ⟨⟨z1, z2, z3, z4, z5, z6, z7, z8, z9, z10, z11, z12, z13, z14, z15, z16, rfl⟩, p, q, r, R, rfl⟩
    obtain ⟨dn, hdn, p1, q1, r1, e1⟩ := k_of (spr p q r :: R) 0 p q r [.int 1, .int 2, .int 3] rfl (by decide) (by decide)
    obtain ⟨n, hn1, hn3, rfl⟩ : ∃ n : Nat, 1 ≤ n ∧ n ≤ 3 ∧ dn = .int (n : Nat) := by
      simp at hdn
      rcases hdn with e | e | e <;> subst e
      · exact ⟨1, by decide, by decide, rfl⟩
      · exact ⟨2, by decide, by decide, rfl⟩
      · exact ⟨3, by decide, by decide, rfl⟩
    obtain ⟨t, p2, q2, r2, ht, e2⟩ := k_table (spr p1 q1 r1 :: R) 0 p1 q1 r1 n rfl hn1 hn3
    change callIn false m__law_table [.ref 0, .val (.int (n : Nat))] _ = _ at e2
    obtain ⟨mb, p3, q3, r3, hmb, mb0, mb1, e3⟩ := l_menB (z1 := some (.val d)) (z2 := some (.val (.int (n : Nat)))) (z4 := z4) (z5 := z5) (z6 := z6) (z7 := z7) (z8 := z8) (z9 := z9) (z10 := z10) (z11 := z11) (z12 := z12) (z13 := z13) (z14 := z14) (z15 := z15) (z16 := z16) ht p2 q2 r2 R
    obtain ⟨b, hb, p4, q4, r4, e4⟩ := k_of (spr p3 q3 r3 :: R) 0 p3 q3 r3 mb rfl mb0 mb1
    have hb := hmb b hb
    obtain ⟨m, ⟨hm1, hm3⟩, hbt, e5⟩ := l_size hb hn1 hn3
    obtain ⟨a, p5, q5, r5, ha, hal, e6⟩ := l_arg (z1 := some (.val d)) (z3 := some (.val (.str (tx t)))) (z4 := some (.val b)) (z5 := z5) (z6 := z6) (z7 := z7) (z8 := z8) (z9 := z9) (z10 := z10) (z11 := z11) (z12 := z12) (z13 := z13) (z14 := z14) (z15 := z15) (z16 := z16) hm3 p4 q4 r4 R
    have e7 := fun z0 z1 z2 z3 z4 z6 z7 z8 z9 z10 z11 z12 z13 z14 z15 z16 S => l_menA (z0 := z0) (z1 := z1) (z2 := z2) (z3 := z3) (z4 := z4) (z6 := z6) (z7 := z7) (z8 := z8) (z9 := z9) (z10 := z10) (z11 := z11) (z12 := z12) (z13 := z13) (z14 := z14) (z15 := z15) (z16 := z16) (a := a) (by omega) S
    obtain ⟨y, hy, p6, q6, r6, e8⟩ := k_of (spr p5 q5 r5 :: R) 0 p5 q5 r5 (argL a) rfl (by simp [argL]) (by simp [argL])
    obtain ⟨yt, yr⟩ := arg_ok hm3 ha hal hy
    have e9 := fun z0 z1 z2 z3 z4 z5 z6 z7 z8 z9 z10 z11 z12 z13 z14 z15 z16 S => l_menO (z0 := z0) (z1 := z1) (z2 := z2) (z3 := z3) (z4 := z4) (z5 := z5) (z6 := z6) (z7 := z7) (z8 := z8) (z9 := z9) (z10 := z10) (z11 := z11) (z12 := z12) (z13 := z13) (z14 := z14) (z15 := z15) (z16 := z16) S
    obtain ⟨o, ho, p7, q7, r7, e10⟩ := k_of (spr p6 q6 r6 :: R) 0 p6 q6 r6 ordL rfl (by simp [ordL]) (by simp [ordL])
    obtain ⟨ts, p8, q8, r8, hts, htl, e11⟩ := l_tab (z1 := some (.val d)) (z3 := some (.val (.str (tx t)))) (z4 := some (.val b)) (z5 := some (.val y)) (z6 := some (.val (.lst ordL))) (z7 := some (.val o)) (z8 := z8) (z9 := z9) (z10 := z10) (z11 := z11) (z12 := z12) (z13 := z13) (z14 := z14) (z15 := z15) (z16 := z16) hm3 p7 q7 r7 R
    have e12 := fun z0 z1 z2 z3 z4 z5 z6 z7 z9 z10 z11 z12 z13 z14 z15 z16 S => l_menP (z0 := z0) (z1 := z1) (z2 := z2) (z3 := z3) (z4 := z4) (z5 := z5) (z6 := z6) (z7 := z7) (z9 := z9) (z10 := z10) (z11 := z11) (z12 := z12) (z13 := z13) (z14 := z14) (z15 := z15) (z16 := z16) (ts := ts) (by omega) S
    obtain ⟨u, hu, p9, q9, r9, e13⟩ := k_of (spr p8 q8 r8 :: R) 0 p8 q8 r8 (putL ts) rfl (by simp [putL]) (by simp [putL])
    obtain ⟨ut, ur⟩ := put_ok hts (by omega) hu
    have hm : m = 1 ∨ m = 2 ∨ m = 3 := by omega
    have e14 := fun S => k_lawT hb.ty S
    have e15 : ∀ w S, callIn false m__law_wrong [.val (.bl w), .val (.str "InvalidTable"), .val b] S = .ok (.val (if w then .lst [] else erD 2 b)) S := fun w S => k_wrong (i := 2) hb.rp w S
    have e15' : ∀ S, callIn false m__law_wrong [.val (.bl (isTb b)), .val (.str "InvalidTable"), .val b] S = .ok (.val (dueB b)) S := fun S => e15 (isTb b) S
    have e16 := fun z0 z1 z3 z4 z6 z7 z8 z9 z10 z11 z12 z13 z14 z15 z16 S => l_fit (n := m) (z0 := z0) (z1 := z1) (z3 := z3) (z4 := z4) (z6 := z6) (z7 := z7) (z8 := z8) (z9 := z9) (z10 := z10) (z11 := z11) (z12 := z12) (z13 := z13) (z14 := z14) (z15 := z15) (z16 := z16) yt S
    have e17 := fun z0 z1 z3 z4 z5 z6 z7 z9 z10 z11 z12 z13 z14 z15 z16 S => l_p1 (n := m) (z0 := z0) (z1 := z1) (z3 := z3) (z4 := z4) (z5 := z5) (z6 := z6) (z7 := z7) (z9 := z9) (z10 := z10) (z11 := z11) (z12 := z12) (z13 := z13) (z14 := z14) (z15 := z15) (z16 := z16) ut S
    have e18 := fun z0 z1 z2 z3 z4 z5 z6 z7 z9 z10 z12 z13 z14 z15 z16 S => l_p2 (n := m) (z0 := z0) (z1 := z1) (z2 := z2) (z3 := z3) (z4 := z4) (z5 := z5) (z6 := z6) (z7 := z7) (z9 := z9) (z10 := z10) (z12 := z12) (z13 := z13) (z14 := z14) (z15 := z15) (z16 := z16) ut hm1 S
    obtain ⟨x1, x2, x3, x4, x5, g1, g2, g3, g4, g5, e19⟩ := l_to5 hb
    obtain ⟨x6, f6, g6⟩ := t_value (n := m) hb.ty hb.rp yt yr hbt
    obtain ⟨x7, w7, k7, f7, g7⟩ := t_renamed hb.ty hb.rp ho
    obtain ⟨x8, w8, k8, f8, g8⟩ := t_turned hb.ty hb.rp ho hm hbt
    obtain ⟨x9, f9, g9⟩ := t_put (n := m) hb.ty hb.rp ut ur hbt
    have or' := ord_rp o ho
    have e20 : ∀ w S, callIn false m__law_wrong [.val (.bl w), .val (.str "InvalidArguments"), .val y] S = .ok (.val (if w then .lst [] else erD 4 y)) S := fun w S => k_wrong (i := 4) yr w S
    have e21 : ∀ w S, callIn false m__law_wrong [.val (.bl w), .val (.str "InvalidOrder"), .val o] S = .ok (.val (if w then .lst [] else erD 6 o)) S := fun w S => k_wrong (i := 6) or' w S
    have e22 : ∀ w S, callIn false m__law_wrong [.val (.bl w), .val (.str "InvalidTables"), .val u] S = .ok (.val (if w then .lst [] else erD 5 u)) S := fun w S => k_wrong (i := 5) ur w S
    have hdb := dueB_due hb.rp
    have h20 : ∀ S, callIn false m__law_first [.val (.lst [dueB b, if fitB m y then .lst [] else erD 4 y])] S = .ok (.val (dueA b y m)) S := fun S => by rw [k_first hdb (if_due (by decide) yr), dueA_first]
    have h21 : ∀ w S, callIn false m__law_first [.val (.lst [dueB b, if w then .lst [] else erD 6 o])] S = .ok (.val (dueO b o w)) S := fun w S => by rw [k_first hdb (if_due (by decide) or'), dueO_first]
    have h22 : ∀ S, callIn false m__law_first [.val (.lst [dueB b, if p1B m u && p2B u then .lst [] else erD 5 u])] S = .ok (.val (dueP b u m)) S := fun S => by rw [k_first hdb (if_due (by decide) ur), dueP_first]
    have a1 := app1 (spr p9 q9 r9) R
    have a2 := app2 (spr p9 q9 r9) R
    have y5 : szOk 5 = true := szOk_le (by decide)
    have y6 : szOk 6 = true := szOk_le (by decide)
    have m5 : ∀ S, fMul true (.val (.lst [dueB b])) (.val (.int 5)) S = .ok (.val (.lst [dueB b, dueB b, dueB b, dueB b, dueB b])) S := fun S => rfl
    have a5 : ∀ (y : D) S, fAdd false (.val (.lst [dueB b, dueB b, dueB b, dueB b, dueB b])) (.val (.lst [y])) S = .ok (.ref S.length) (S ++ [.lst [dueB b, dueB b, dueB b, dueB b, dueB b, y]]) := fun y S => rfl
    have hloop := fun z0 z1 z2 z3 z4 z5 z6 z7 z8 z9 z10 z11 z14 z15 z16 => l_loop (z0 := z0) (z1 := z1) (z2 := z2) (z3 := z3) (z4 := z4) (z5 := z5) (z6 := z6) (z7 := z7) (z8 := z8) (z9 := z9) (z10 := z10) (z11 := z11) (z14 := z14) (z15 := z15) (z16 := z16) (ts := [x1, x2, x3, x4, x5, x6, x7, x8, x9]) (ds := [dueB b, dueB b, dueB b, dueB b, dueB b, dueA b y m, dueO b o w7, dueO b o w8, dueP b u m]) rfl rfl (fun k x z hx hz => by
      match k, hx, hz with
      | 0, hx, hz => cases hx; cases hz; exact g1
      | 1, hx, hz => cases hx; cases hz; exact g2
      | 2, hx, hz => cases hx; cases hz; exact g3
      | 3, hx, hz => cases hx; cases hz; exact g4
      | 4, hx, hz => cases hx; cases hz; exact g5
      | 5, hx, hz => cases hx; cases hz; exact g6
      | 6, hx, hz => cases hx; cases hz; exact g7
      | 7, hx, hz => cases hx; cases hz; exact g8
      | 8, hx, hz => cases hx; cases hz; exact g9
      | k + 9, hx, _ => simp at hx) (spr p9 q9 r9) R
    generalize hpw : (p1B m u && p2B u) = pw at *
    obtain ⟨z, ez⟩ := hloop (some (.ref 0)) (some (.val d)) (some (.val (.int (m : Nat)))) (some (.val (.str (tx t)))) (some (.val b)) (some (.val y)) (some (.val (.lst ordL))) (some (.val o)) (some (.val u)) (some (.val (dueB b))) (some (.val (.bl (fitB m y)))) (some (.val (.bl pw))) z14 z15 z16
    simp [e1, e2, e3, e4, e5, e6, e7, e8, e9, e10, e11, e12, e13, e14, e15', e16, e17, e18, e19, f6, f7, f8, f9, k7, k8, e20, e21, e22, h20, h21, h22, a1, a2, m5, a5, ez]
    exact ⟨_, _, ⟨rfl, rfl⟩, ⟨_, _, _, _, _, _, _, _, _, _, _, _, _, _, _, _, rfl⟩, _, _, _, _, rfl⟩)
  simp
theorem k_right04 (S : Store) (i : Nat) (p q r : Int) (hi : S[i]? = some (spr p q r)) : ∃ p' q' r', callIn false m__law_right [.ref i] S = .ok (.val (.bl true)) (S.set i (spr p' q' r')) := by
  obtain ⟨p', q', r', S', e⟩ := c_right04 p q r
  exact ⟨p', q', r', call_one1 hi rfl e rfl⟩
theorem L04_body (F3 : Fn) (hR : ∀ (S : Store) (i : Nat) (p q r : Int), S[i]? = some (spr p q r) → ∃ p' q' r', callIn false F3 [.ref i] S = .ok (.val (.bl true)) (S.set i (spr p' q' r')))
    (ns : List Int) (hl : ns.length ≤ 63) : ∃ S, runF 2 (sRet (cB1 (fAll) (cCons (cLc true [1] (ciR1 (cB1 (fMax2) (cCons (cI 2) (cCons (cB1 (fMin2) (cCons (cB1 (fLen) (cCons (cV 0) (cNil))) (cCons (cI 6) (cNil)))) (cNil))))) (tgName 1) (cYes) (cCall 1 false F3 (cCons (cCall 2 true m__law_spring (cCons (cV 0) (cCons (cV 1) (cNil)))) (cNil)))) (cNil)))) [.val (.ro (ns.map D.int))] [] = .ok (.val (.bl true)) S := by
  unfold runF
  obtain ⟨m, hm, em⟩ := runs_n ns 6 (by decide)
  have em' : (if 2 < (if (6 : Int) < (ns.length : Int) then (6 : Int) else (ns.length : Int)) then (if (6 : Int) < (ns.length : Int) then (6 : Int) else (ns.length : Int)) else 2) = (m : Int) := em
  simp
  rw [em']
  have g1 : (-1000000 : Int) ≤ (m : Int) := by omega
  have g2 : (m : Int) ≤ 1000000 := by omega
  have hz : m ≤ 16000000 := by omega
  have hb : boolsOf ((List.range m).map fun _ => D.bl true) = some ((List.range m).map fun _ => true) := boolsOf_map (fun _ => true) _
  have hc : ((List.range m).map fun _ => true).all id = true := by simp
  generalize hρ : [some (A.val (D.ro (ns.map D.int))), none] = ρ
  obtain ⟨S', e⟩ := lc_runs hR ns hl m (by omega) 1 (by decide) ρ (by rw [← hρ]; rfl) (by rw [← hρ]; simp) []
  simp [g1, g2, e, hz, hb, hc, -List.map_const]
theorem law_holds : LawSays m_law := by
  intro ns hl
  unfold m_law b_law
  exact L04_body m__law_right k_right04 ns hl
end T3
namespace T3
open PySem PySem.Spec PyProof.Rows L2
abbrev topS (i : Nat) : Stmt := PySem.Challenge.pw_threevalues_k04_tables_refused.main.body.getD i (.Pass ⟨0, 0, 0, 0⟩)
abbrev s__law_draw : Stmt := topS 57
abbrev N__law_draw : List Str := ["spring", "size", "far", "mixed", "digit"]
theorem sc__law_draw : FnScope N__law_draw ["spring", "size"] (defScope s__law_draw) := ⟨rfl, rfl, rfl, by decide +kernel, rfl, by decide +kernel, by decide +kernel⟩
abbrev s__law_first : Stmt := topS 68
abbrev N__law_first : List Str := ["some", "each"]
theorem sc__law_first : FnScope N__law_first ["some"] (defScope s__law_first) := ⟨rfl, rfl, rfl, by decide +kernel, rfl, by decide +kernel, by decide +kernel⟩
abbrev s__law_is_whole : Stmt := topS 59
abbrev N__law_is_whole : List Str := ["thing", "least", "most"]
theorem sc__law_is_whole : FnScope N__law_is_whole ["thing", "least", "most"] (defScope s__law_is_whole) := ⟨rfl, rfl, rfl, by decide +kernel, rfl, by decide +kernel, by decide +kernel⟩
abbrev s__law_is_order : Stmt := topS 67
abbrev N__law_is_order : List Str := ["thing", "size", "each"]
theorem sc__law_is_order : FnScope N__law_is_order ["thing", "size"] (defScope s__law_is_order) := ⟨rfl, rfl, rfl, by decide +kernel, rfl, by decide +kernel, by decide +kernel⟩
abbrev s__law_is_table : Stmt := topS 66
abbrev N__law_is_table : List Str := ["thing", "sign"]
theorem sc__law_is_table : FnScope N__law_is_table ["thing"] (defScope s__law_is_table) := ⟨rfl, rfl, rfl, by decide +kernel, rfl, by decide +kernel, by decide +kernel⟩
abbrev s__law_of : Stmt := topS 58
abbrev N__law_of : List Str := ["spring", "menu"]
theorem sc__law_of : FnScope N__law_of ["spring", "menu"] (defScope s__law_of) := ⟨rfl, rfl, rfl, by decide +kernel, rfl, by decide +kernel, by decide +kernel⟩
abbrev s__law_odd : Stmt := topS 63
abbrev N__law_odd : List Str := ["spring", "some"]
theorem sc__law_odd : FnScope N__law_odd ["spring"] (defScope s__law_odd) := ⟨rfl, rfl, rfl, by decide +kernel, rfl, by decide +kernel, by decide +kernel⟩
abbrev s__law_places : Stmt := topS 64
abbrev N__law_places : List Str := ["sheet_now"]
theorem sc__law_places : FnScope N__law_places ["sheet_now"] (defScope s__law_places) := ⟨rfl, rfl, rfl, by decide +kernel, rfl, by decide +kernel, by decide +kernel⟩
abbrev s__law_table : Stmt := topS 65
abbrev N__law_table : List Str := ["spring", "size", "known", "k"]
theorem sc__law_table : FnScope N__law_table ["spring", "size"] (defScope s__law_table) := ⟨rfl, rfl, rfl, by decide +kernel, rfl, by decide +kernel, by decide +kernel⟩
abbrev s__law_error : Stmt := topS 60
abbrev N__law_error : List Str := ["e", "fits_here", "words", "bases", "plain_ones", "at"]
theorem sc__law_error : FnScope N__law_error ["e"] (defScope s__law_error) := ⟨rfl, rfl, rfl, by decide +kernel, rfl, by decide +kernel, by decide +kernel⟩
abbrev s__law_field : Stmt := topS 61
abbrev N__law_field : List Str := ["e", "word_now"]
theorem sc__law_field : FnScope N__law_field ["e", "word_now"] (defScope s__law_field) := ⟨rfl, rfl, rfl, by decide +kernel, rfl, by decide +kernel, by decide +kernel⟩
abbrev s__law_told : Stmt := topS 62
theorem told_s : ToldS s__law_told := ⟨_, _, _, _, _, _, _, _, _, _, _, _, _, _, _, _, _, _, _, _, _, _, _, _, _, _, _, _, _, _, _, _, rfl, rfl⟩
abbrev s__law_wrong : Stmt := topS 69
abbrev N__law_wrong : List Str := ["is_right", "word_now", "thing"]
theorem sc__law_wrong : FnScope N__law_wrong ["is_right", "word_now", "thing"] (defScope s__law_wrong) := ⟨rfl, rfl, rfl, by decide +kernel, rfl, by decide +kernel, by decide +kernel⟩
abbrev s_size_of : Stmt := topS 31
abbrev N_size_of : List Str := ["count", "found", "turn"]
theorem sc_size_of : FnScope N_size_of ["count"] (defScope s_size_of) := ⟨rfl, rfl, rfl, by decide +kernel, rfl, by decide +kernel, by decide +kernel⟩
abbrev s_is_table : Stmt := topS 32
abbrev N_is_table : List Str := ["value", "sign", "count"]
theorem sc_is_table : FnScope N_is_table ["value"] (defScope s_is_table) := ⟨rfl, rfl, rfl, by decide +kernel, rfl, by decide +kernel, by decide +kernel⟩
abbrev s_check_table : Stmt := topS 33
abbrev N_check_table : List Str := ["table"]
theorem sc_check_table : FnScope N_check_table ["table"] (defScope s_check_table) := ⟨rfl, rfl, rfl, by decide +kernel, rfl, by decide +kernel, by decide +kernel⟩
abbrev s_all_arguments : Stmt := topS 37
abbrev N_all_arguments : List Str := ["count", "found", "turn", "some", "each"]
theorem sc_all_arguments : FnScope N_all_arguments ["count"] (defScope s_all_arguments) := ⟨rfl, rfl, rfl, by decide +kernel, rfl, by decide +kernel, by decide +kernel⟩
abbrev s_places_of : Stmt := topS 34
abbrev N_places_of : List Str := ["table", "count"]
theorem sc_places_of : FnScope N_places_of ["table"] (defScope s_places_of) := ⟨rfl, rfl, rfl, by decide +kernel, rfl, by decide +kernel, by decide +kernel⟩
abbrev s_index_of : Stmt := topS 35
abbrev N_index_of : List Str := ["arguments", "found", "each"]
theorem sc_index_of : FnScope N_index_of ["arguments"] (defScope s_index_of) := ⟨rfl, rfl, rfl, by decide +kernel, rfl, by decide +kernel, by decide +kernel⟩
abbrev s_value_at : Stmt := topS 36
abbrev N_value_at : List Str := ["table", "arguments"]
theorem sc_value_at : FnScope N_value_at ["table", "arguments"] (defScope s_value_at) := ⟨rfl, rfl, rfl, by decide +kernel, rfl, by decide +kernel, by decide +kernel⟩
abbrev s_counts_at : Stmt := topS 42
abbrev N_counts_at : List Str := ["table", "place", "some", "changed", "each", "other"]
theorem sc_counts_at : FnScope N_counts_at ["table", "place"] (defScope s_counts_at) := ⟨rfl, rfl, rfl, by decide +kernel, rfl, by decide +kernel, by decide +kernel⟩
abbrev s_counting_of : Stmt := topS 43
abbrev N_counting_of : List Str := ["table", "place"]
theorem sc_counting_of : FnScope N_counting_of ["table"] (defScope s_counting_of) := ⟨rfl, rfl, rfl, by decide +kernel, rfl, by decide +kernel, by decide +kernel⟩
abbrev s_counting : Stmt := topS 44
abbrev N_counting : List Str := ["table"]
theorem sc_counting : FnScope N_counting ["table"] (defScope s_counting) := ⟨rfl, rfl, rfl, by decide +kernel, rfl, by decide +kernel, by decide +kernel⟩
abbrev s_digits_of : Stmt := topS 48
abbrev N_digits_of : List Str := ["table", "sign", "other"]
theorem sc_digits_of : FnScope N_digits_of ["table"] (defScope s_digits_of) := ⟨rfl, rfl, rfl, by decide +kernel, rfl, by decide +kernel, by decide +kernel⟩
abbrev s_fixed : Stmt := topS 47
abbrev N_fixed : List Str := ["table", "count", "each"]
theorem sc_fixed : FnScope N_fixed ["table"] (defScope s_fixed) := ⟨rfl, rfl, rfl, by decide +kernel, rfl, by decide +kernel, by decide +kernel⟩
abbrev s_is_full : Stmt := topS 45
abbrev N_is_full : List Str := ["table", "sign"]
theorem sc_is_full : FnScope N_is_full ["table"] (defScope s_is_full) := ⟨rfl, rfl, rfl, by decide +kernel, rfl, by decide +kernel, by decide +kernel⟩
abbrev s_is_onto : Stmt := topS 46
abbrev N_is_onto : List Str := ["table"]
theorem sc_is_onto : FnScope N_is_onto ["table"] (defScope s_is_onto) := ⟨rfl, rfl, rfl, by decide +kernel, rfl, by decide +kernel, by decide +kernel⟩
abbrev s_places : Stmt := topS 41
abbrev N_places : List Str := ["table"]
theorem sc_places : FnScope N_places ["table"] (defScope s_places) := ⟨rfl, rfl, rfl, by decide +kernel, rfl, by decide +kernel, by decide +kernel⟩
abbrev s_table_from : Stmt := topS 38
abbrev N_table_from : List Str := ["values", "each"]
theorem sc_table_from : FnScope N_table_from ["values"] (defScope s_table_from) := ⟨rfl, rfl, rfl, by decide +kernel, rfl, by decide +kernel, by decide +kernel⟩
abbrev s_put_in : Stmt := topS 52
abbrev N_put_in : List Str := ["table", "some", "count", "found", "arguments", "other"]
theorem sc_put_in : FnScope N_put_in ["table", "some"] (defScope s_put_in) := ⟨rfl, rfl, rfl, by decide +kernel, rfl, by decide +kernel, by decide +kernel⟩
abbrev s_put_together : Stmt := topS 53
abbrev N_put_together : List Str := ["table", "tables", "each"]
theorem sc_put_together : FnScope N_put_together ["table", "tables"] (defScope s_put_together) := ⟨rfl, rfl, rfl, by decide +kernel, rfl, by decide +kernel, by decide +kernel⟩
abbrev s_is_integer : Stmt := topS 29
abbrev N_is_integer : List Str := ["value"]
theorem sc_is_integer : FnScope N_is_integer ["value"] (defScope s_is_integer) := ⟨rfl, rfl, rfl, by decide +kernel, rfl, by decide +kernel, by decide +kernel⟩
abbrev s_is_between : Stmt := topS 30
abbrev N_is_between : List Str := ["value", "least", "most"]
theorem sc_is_between : FnScope N_is_between ["value", "least", "most"] (defScope s_is_between) := ⟨rfl, rfl, rfl, by decide +kernel, rfl, by decide +kernel, by decide +kernel⟩
abbrev s_check_order : Stmt := topS 49
abbrev N_check_order : List Str := ["count", "order", "each"]
theorem sc_check_order : FnScope N_check_order ["count", "order"] (defScope s_check_order) := ⟨rfl, rfl, rfl, by decide +kernel, rfl, by decide +kernel, by decide +kernel⟩
abbrev s_renamed_of : Stmt := topS 50
abbrev N_renamed_of : List Str := ["table", "order", "found", "some", "each"]
theorem sc_renamed_of : FnScope N_renamed_of ["table", "order"] (defScope s_renamed_of) := ⟨rfl, rfl, rfl, by decide +kernel, rfl, by decide +kernel, by decide +kernel⟩
abbrev s_renamed : Stmt := topS 51
abbrev N_renamed : List Str := ["table", "order"]
theorem sc_renamed : FnScope N_renamed ["table", "order"] (defScope s_renamed) := ⟨rfl, rfl, rfl, by decide +kernel, rfl, by decide +kernel, by decide +kernel⟩
abbrev s_turned_round : Stmt := topS 54
abbrev N_turned_round : List Str := ["table", "places_order", "count", "found", "some", "place"]
theorem sc_turned_round : FnScope N_turned_round ["table", "places_order"] (defScope s_turned_round) := ⟨rfl, rfl, rfl, by decide +kernel, rfl, by decide +kernel, by decide +kernel⟩
abbrev s_are_arguments : Stmt := topS 39
abbrev N_are_arguments : List Str := ["count", "value", "each"]
theorem sc_are_arguments : FnScope N_are_arguments ["count", "value"] (defScope s_are_arguments) := ⟨rfl, rfl, rfl, by decide +kernel, rfl, by decide +kernel, by decide +kernel⟩
abbrev s_value : Stmt := topS 40
abbrev N_value : List Str := ["table", "arguments"]
theorem sc_value : FnScope N_value ["table", "arguments"] (defScope s_value) := ⟨rfl, rfl, rfl, by decide +kernel, rfl, by decide +kernel, by decide +kernel⟩
abbrev s__law_right : Stmt := topS 70
abbrev N__law_right : List Str := ["spring", "turn_k", "size", "fine", "bent", "some", "menu", "order_now", "puts", "is_bent", "is_fit", "are_puts", "told_now", "due", "k", "act", "each"]
theorem sc__law_right : FnScope N__law_right ["spring"] (defScope s__law_right) := ⟨rfl, rfl, rfl, by decide +kernel, rfl, by decide +kernel, by decide +kernel⟩
abbrev s__law_spring : Stmt := topS 56
abbrev N__law_spring : List Str := ["cells", "k", "cell", "mixed", "number"]
theorem sc__law_spring : FnScope N__law_spring ["cells", "k"] (defScope s__law_spring) := ⟨rfl, rfl, rfl, by decide +kernel, rfl, by decide +kernel, by decide +kernel⟩
abbrev s_law : Stmt := topS 71
abbrev N_law : List Str := ["script", "k"]
theorem sc_law : FnScope N_law ["script"] (defScope s_law) := ⟨rfl, rfl, rfl, by decide +kernel, rfl, by decide +kernel, by decide +kernel⟩
abbrev qn_lam : Str := (envOfC "_law_right" (defScope s__law_right) 0 0 .none).qual ++ "<lambda>"
/-- what the top has left -/
structure Txt0 (P : Program) (K : PySem.W.Frag) (mg : Str → Option Value) (cl : ClT) (co Pt : Addr) : Prop where
  a__law_draw : At K mg "_law_draw" s__law_draw
  a__law_first : At K mg "_law_first" s__law_first
  a__law_is_whole : At K mg "_law_is_whole" s__law_is_whole
  a__law_is_order : At K mg "_law_is_order" s__law_is_order
  a__law_is_table : At K mg "_law_is_table" s__law_is_table
  a__law_of : At K mg "_law_of" s__law_of
  a__law_odd : At K mg "_law_odd" s__law_odd
  a__law_places : At K mg "_law_places" s__law_places
  a__law_table : At K mg "_law_table" s__law_table
  a__law_error : At K mg "_law_error" s__law_error
  a__law_field : At K mg "_law_field" s__law_field
  a__law_told : At K mg "_law_told" s__law_told
  a__law_wrong : At K mg "_law_wrong" s__law_wrong
  a_size_of : At K mg "size_of" s_size_of
  a_is_table : At K mg "is_table" s_is_table
  a_check_table : At K mg "check_table" s_check_table
  a_all_arguments : At K mg "all_arguments" s_all_arguments
  a_places_of : At K mg "places_of" s_places_of
  a_index_of : At K mg "index_of" s_index_of
  a_value_at : At K mg "value_at" s_value_at
  a_counts_at : At K mg "counts_at" s_counts_at
  a_counting_of : At K mg "counting_of" s_counting_of
  a_counting : At K mg "counting" s_counting
  a_digits_of : At K mg "digits_of" s_digits_of
  a_fixed : At K mg "fixed" s_fixed
  a_is_full : At K mg "is_full" s_is_full
  a_is_onto : At K mg "is_onto" s_is_onto
  a_places : At K mg "places" s_places
  a_table_from : At K mg "table_from" s_table_from
  a_put_in : At K mg "put_in" s_put_in
  a_put_together : At K mg "put_together" s_put_together
  a_is_integer : At K mg "is_integer" s_is_integer
  a_is_between : At K mg "is_between" s_is_between
  a_check_order : At K mg "check_order" s_check_order
  a_renamed_of : At K mg "renamed_of" s_renamed_of
  a_renamed : At K mg "renamed" s_renamed
  a_turned_round : At K mg "turned_round" s_turned_round
  a_are_arguments : At K mg "are_arguments" s_are_arguments
  a_value : At K mg "value" s_value
  a__law_right : At K mg "_law_right" s__law_right
  a__law_spring : At K mg "_law_spring" s__law_spring
  a_law : At K mg "law" s_law
  z_ArithmeticError : mg "ArithmeticError" = none
  z_LookupError : mg "LookupError" = none
  z_ValueError : mg "ValueError" = none
  z_abs : mg "abs" = none
  z_all : mg "all" = none
  z_bool : mg "bool" = none
  z_divmod : mg "divmod" = none
  z_int : mg "int" = none
  z_isinstance : mg "isinstance" = none
  z_len : mg "len" = none
  z_list : mg "list" = none
  z_max : mg "max" = none
  z_min : mg "min" = none
  z_range : mg "range" = none
  z_repr : mg "repr" = none
  z_set : mg "set" = none
  z_sorted : mg "sorted" = none
  z_str : mg "str" = none
  z_tuple : mg "tuple" = none
  g_DIGITS : Cn mg "DIGITS" (.str "012")
  g_MOST_PLACES : Cn mg "MOST_PLACES" (.int 3)
  i_bool : IsiT K "bool"
  i_int : IsiT K "int"
  i_str : IsiT K "str"
  i_tuple : IsiT K "tuple"
  er : ErrG K mg cl.f [2, 3, 4, 5, 6]
  x_InvalidTable : RaisX P K mg (xNm 2) "given"
  x_InvalidTables : RaisX P K mg (xNm 5) "given"
  x_InvalidOrder : RaisX P K mg (xNm 6) "given"
  x_InvalidArguments : RaisX P K mg (xNm 4) "given"
  f_counting : mg "counting" = some (.ref (cl.f 2000))
  f_digits_of : mg "digits_of" = some (.ref (cl.f 2001))
  f_fixed : mg "fixed" = some (.ref (cl.f 2002))
  f_is_onto : mg "is_onto" = some (.ref (cl.f 2003))
  f_places : mg "places" = some (.ref (cl.f 2004))
  noS : mg "super" = none
  hT : cl.T = [(Pt, qn_lam)]
  hco : ∀ fa fd, Fun K "_law_right" "_law_right" s__law_right fa fd → mg "_law_right" = some (.ref fa) → fd.code = .ref co
structure Txt (P : Program) (K : PySem.W.Frag) (mg : Str → Option Value) (base : Heap) (cl : ClT) (co Pt : Addr) : Prop extends Txt0 P K mg cl co Pt where
  tab : LamX.TabB base mg co Pt
section
variable {P : Program} {w : World} {K : PySem.W.Frag} {mg : Str → Option Value} {base : Heap} {cl : ClT} {co Pt : Addr}
theorem r_DIGITS {N : Addr → Prop} {H : Hp} : Rep K cl N H (.str "012") g_DIGITS := .str _
theorem r_MOST_PLACES {N : Addr → Prop} {H : Hp} : Rep K cl N H (.int 3) g_MOST_PLACES := .int _
theorem wf__law_draw (T : Txt P K mg base cl co Pt) (fa : Addr) (fd : FuncData) (F : Fun K "_law_draw" "_law_draw" s__law_draw fa fd) : FnG P w K mg base 1 fa fd ["spring", "size"] (spF K cl 2 m__law_draw) :=
  fnD (b := b__law_draw) sc__law_draw (fun fa cdv A outer s H E g hr tk =>
    pms_cons (pm_asg (pm_op op_addM (ok_add true) (pm_ix ix_seq ok_ix (pm_v 0) pm_int) pm_int) (pg_sub (pm_v 0) pm_int set_list) (tg_sub (W := W0) rfl rfl)) (pms_cons (pm_asg (pm_op op_mod ok_fMod (pm_t call_intM (ok_int) T.z_int (by rfl) (pm_cons (pm_op op_addM (ok_add true) (pm_op op_addM (ok_add true) (pm_op op_mulM (ok_mul true) (pm_ix ix_seq ok_ix (pm_v 0) pm_int) pm_int) (pm_op op_mulM (ok_mul true) pm_int (pm_ix ix_seq ok_ix (pm_v 0) pm_int))) pm_int) pm_nil)) pm_int) (pg_sub (pm_v 0) pm_int set_list) (tg_sub (W := W0) rfl rfl)) (pms_cons (pm_ifs (pt_cmpM op_gt ok_fGt (pm_ix ix_seq ok_ix (pm_v 0) pm_int) pm_int) (pms_cons (pm_asg (pm_b (nm := "") call_divmodZ (ok_divmod) T.z_divmod (by rfl) (pm_cons (pm_ix ix_seq ok_ix (pm_v 0) pm_int) (pm_cons (pm_v 1) pm_nil))) (pg_any (n := 2) rfl (pgs_cons (pg_sub (pm_v 0) pm_int set_list) (pgs_cons (pg_name (i := 4) sc__law_draw.nd rfl (by first | exact Or.inl rfl | exact Or.inr rfl)) pgs_nil))) (tg_any (tgs_cons (tg_sub (W := W0) rfl rfl) (tgs_cons (tg_name 4) tgs_nil)))) (pms_one (pm_ret (pm_v 4)))) pms_nil) (pms_cons (pm_set 2 sc__law_draw.nd (pm_op op_addM (ok_add true) (pm_ix ix_seq ok_ix (pm_v 0) pm_int) pm_int)) (pms_cons (pm_set 3 sc__law_draw.nd (pm_op op_mod ok_fMod (pm_t call_intM (ok_int) T.z_int (by rfl) (pm_cons (pm_op op_addM (ok_add true) (pm_op op_mulM (ok_mul true) (pm_v 2) (pm_ix ix_seq ok_ix (pm_v 0) pm_int)) (pm_ix ix_seq ok_ix (pm_v 0) pm_int)) pm_nil)) pm_int)) (pms_one (pm_ret (pm_op op_mod ok_fMod (pm_t call_intM (ok_int) T.z_int (by rfl) (pm_cons (pm_op op_fdiv ok_fFdv (pm_v 3) pm_int) pm_nil)) (pm_v 1))))))))) fa fd F
theorem wk__law_draw (T : Txt P K mg base cl co Pt) : CalG P w K mg base cl 1 "_law_draw" 2 m__law_draw := calG_of T.a__law_draw (binds_of fun _ _ _ _ _ _ us hl => match us, hl with | [_, _], _ => rfl) (wf__law_draw T)
theorem wf__law_first (T : Txt P K mg base cl co Pt) (fa : Addr) (fd : FuncData) (F : Fun K "_law_first" "_law_first" s__law_first fa fd) : FnG P w K mg base 1 fa fd ["some"] (spF K cl 1 m__law_first) :=
  fnD (b := b__law_first) sc__law_first (fun fa cdv A outer s H E g hr tk =>
    pms_one (pm_ret (pm_ix ix_seq ok_ix (pm_op op_addM (ok_add true) (pm_lcV true (own := [("each", 1)]) rfl sc__law_first.nd (pm_v 0) (blkOk_by (N := N__law_first) (sc := (defScope s__law_first)) (own := [("each", 1)]) (by decide +kernel)) (fun _ _ _ _ _ => (pg_name (i := 1) sc__law_first.nd rfl (by first | exact Or.inl rfl | exact Or.inr rfl))) (tgc_name 1 (by decide)) (fun _ _ _ _ _ => (pts_one (pt_cmpM (op_neM (hu64 hr)) ok_ne (pm_v 1) (pm_lst true pm_nil)))) (fun _ _ _ h => h) (fun _ _ _ _ _ => (pm_v 1))) (pm_lst true (pm_cons (pm_lst true pm_nil) pm_nil))) pm_int))) fa fd F
theorem wk__law_first (T : Txt P K mg base cl co Pt) : CalG P w K mg base cl 1 "_law_first" 1 m__law_first := calG_of T.a__law_first (binds_of fun _ _ _ _ _ _ us hl => match us, hl with | [_], _ => rfl) (wf__law_first T)
theorem wf__law_is_whole (T : Txt P K mg base cl co Pt) (fa : Addr) (fd : FuncData) (F : Fun K "_law_is_whole" "_law_is_whole" s__law_is_whole fa fd) : FnG P w K mg base 1 fa fd ["thing", "least", "most"] (spF K cl 3 m__law_is_whole) :=
  fnD (b := b__law_is_whole) sc__law_is_whole (fun fa cdv A outer s H E g hr tk =>
    pms_one (pm_ret (pm_and (pm_isi T.i_int (pm_v 0) T.z_isinstance T.z_int (by rfl)) (pm_and (pm_not (pm_isi T.i_bool (pm_v 0) T.z_isinstance T.z_bool (by rfl))) (pm_one (pm_chain op_le op_le ok_fLe ok_fLe (pm_v 1) (pm_v 0) (pm_v 2))))))) fa fd F
theorem wk__law_is_whole (T : Txt P K mg base cl co Pt) : CalG P w K mg base cl 1 "_law_is_whole" 3 m__law_is_whole := calG_of T.a__law_is_whole (binds_of fun _ _ _ _ _ _ us hl => match us, hl with | [_, _, _], _ => rfl) (wf__law_is_whole T)
theorem wf__law_is_order (T : Txt P K mg base cl co Pt) (fa : Addr) (fd : FuncData) (F : Fun K "_law_is_order" "_law_is_order" s__law_is_order fa fd) : FnG P w K mg base 2 fa fd ["thing", "size"] (spF K cl 2 m__law_is_order) :=
  fnD (b := b__law_is_order) sc__law_is_order (fun fa cdv A outer s H E g hr tk =>
    pms_cons (pm_ifs (PW.pt (pw_orM (pt_notM (pt_truM (pm_isi T.i_tuple (pm_v 0) T.z_isinstance T.z_tuple (by rfl)))) (pw_or1M (pt_notM (pt_truM (pm_b (nm := "") (cr_all rfl) (ok_all) T.z_all (by rfl) (pm_cons (pm_lcV true (own := [("each", 2)]) rfl sc__law_is_order.nd (pm_v 0) (blkOk_by (N := N__law_is_order) (sc := (defScope s__law_is_order)) (own := [("each", 2)]) (by decide +kernel)) (fun _ _ _ _ _ => (pg_name (i := 2) sc__law_is_order.nd rfl (by first | exact Or.inl rfl | exact Or.inr rfl))) (tgc_name 2 (by decide)) (fun _ _ _ _ _ => pts_nil) (fun _ _ _ => tYes_ok) (fun _ _ _ _ _ => (pm_call false (wk__law_is_whole T) hr g takes0 (by rfl) (pm_cons (pm_v 2) (pm_cons pm_int (pm_cons (pm_op op_sub ok_fSub (pm_v 1) pm_int) pm_nil)))))) pm_nil))))))) (pms_one (pm_ret pm_bl)) pms_nil) (pms_one (pm_ret (pm_cmp (op_eqM (hu64 hr)) ok_eq (pm_b (nm := "") (call_sorted2 (hu70 hr)) (ok_sortD2) T.z_sorted (by rfl) (pm_cons (pm_v 0) pm_nil)) (pm_listR true T.z_list T.z_range (pm_v 1) rfl))))) fa fd F
theorem wk__law_is_order (T : Txt P K mg base cl co Pt) : CalG P w K mg base cl 2 "_law_is_order" 2 m__law_is_order := calG_of T.a__law_is_order (binds_of fun _ _ _ _ _ _ us hl => match us, hl with | [_, _], _ => rfl) (wf__law_is_order T)
theorem wf__law_is_table (T : Txt P K mg base cl co Pt) (fa : Addr) (fd : FuncData) (F : Fun K "_law_is_table" "_law_is_table" s__law_is_table fa fd) : FnG P w K mg base 1 fa fd ["thing"] (spF K cl 1 m__law_is_table) :=
  fnD (b := b__law_is_table) sc__law_is_table (fun fa cdv A outer s H E g hr tk =>
    pms_one (pm_ret (pm_and (pm_isi T.i_str (pm_v 0) T.z_isinstance T.z_str (by rfl)) (pm_and (pm_cmp (op_inM (hu65 hr)) ok_in (pm_b (nm := "") call_len (ok_len) T.z_len (by rfl) (pm_cons (pm_v 0) pm_nil)) (pm_lst true (pm_cons pm_int (pm_cons pm_int (pm_cons pm_int pm_nil))))) (pm_one (pm_b (nm := "") (cr_all rfl) (ok_all) T.z_all (by rfl) (pm_cons (pm_lcV true (own := [("sign", 1)]) rfl sc__law_is_table.nd (pm_v 0) (blkOk_by (N := N__law_is_table) (sc := (defScope s__law_is_table)) (own := [("sign", 1)]) (by decide +kernel)) (fun _ _ _ _ _ => (pg_name (i := 1) sc__law_is_table.nd rfl (by first | exact Or.inl rfl | exact Or.inr rfl))) (tgc_name 1 (by decide)) (fun _ _ _ _ _ => pts_nil) (fun _ _ _ => tYes_ok) (fun _ _ _ _ _ => (pm_cmp (op_inM (hu65 hr)) ok_in (pm_v 1) pm_str))) pm_nil))))))) fa fd F
theorem wk__law_is_table (T : Txt P K mg base cl co Pt) : CalG P w K mg base cl 1 "_law_is_table" 1 m__law_is_table := calG_of T.a__law_is_table (binds_of fun _ _ _ _ _ _ us hl => match us, hl with | [_], _ => rfl) (wf__law_is_table T)
theorem wf__law_of (T : Txt P K mg base cl co Pt) (fa : Addr) (fd : FuncData) (F : Fun K "_law_of" "_law_of" s__law_of fa fd) : FnG P w K mg base 2 fa fd ["spring", "menu"] (spF K cl 2 m__law_of) :=
  fnD (b := b__law_of) sc__law_of (fun fa cdv A outer s H E g hr tk =>
    pms_one (pm_ret (pm_ix ix_seq ok_ix (pm_v 1) (pm_call false (wk__law_draw T) hr g tk (by rfl) (pm_cons (pm_v 0) (pm_cons (pm_b (nm := "") call_len (ok_len) T.z_len (by rfl) (pm_cons (pm_v 1) pm_nil)) pm_nil)))))) fa fd F
theorem wk__law_of (T : Txt P K mg base cl co Pt) : CalG P w K mg base cl 2 "_law_of" 2 m__law_of := calG_of T.a__law_of (binds_of fun _ _ _ _ _ _ us hl => match us, hl with | [_, _], _ => rfl) (wf__law_of T)
theorem wf__law_odd (T : Txt P K mg base cl co Pt) (fa : Addr) (fd : FuncData) (F : Fun K "_law_odd" "_law_odd" s__law_odd fa fd) : FnG P w K mg base 3 fa fd ["spring"] (spF K cl 1 m__law_odd) :=
  fnD (b := b__law_odd) sc__law_odd (fun fa cdv A outer s H E g hr tk =>
    pms_cons (pm_set 1 sc__law_odd.nd (pm_lst true (pm_cons pm_non (pm_cons pm_bl (pm_cons pm_bl (pm_cons pm_int (pm_cons pm_int (pm_cons (pm_un un_neg ok_neg pm_int) (pm_cons pm_int (pm_cons (pm_op op_pow ok_fPow pm_int pm_int) (pm_cons pm_str (pm_cons pm_str (pm_cons pm_str (pm_cons pm_str (pm_cons pm_str (pm_cons pm_str (pm_cons pm_str (pm_cons pm_str (pm_cons pm_str pm_nil))))))))))))))))))) (pms_cons (pm_set 1 sc__law_odd.nd (pm_op op_addM (ok_add true) (pm_v 1) (pm_lst true (pm_cons pm_str (pm_cons (pm_tup pm_nil) (pm_cons (pm_tup (pm_cons pm_int pm_nil)) (pm_cons (pm_tup (pm_cons pm_int (pm_cons pm_int pm_nil))) (pm_cons (pm_tup (pm_cons pm_int (pm_cons pm_int pm_nil))) (pm_cons (pm_tup (pm_cons pm_int (pm_cons pm_int pm_nil))) (pm_cons (pm_tup (pm_cons pm_bl (pm_cons pm_int pm_nil))) (pm_cons (pm_tup (pm_cons pm_int (pm_cons pm_int (pm_cons pm_int pm_nil)))) (pm_cons (pm_tup (pm_cons pm_int (pm_cons pm_int (pm_cons pm_int pm_nil)))) (pm_cons (pm_tup (pm_cons pm_str pm_nil)) (pm_cons (pm_tup (pm_cons pm_str pm_nil)) pm_nil)))))))))))))) (pms_cons (pm_set 1 sc__law_odd.nd (pm_op op_addM (ok_add true) (pm_v 1) (pm_lst true (pm_cons (pm_lst true pm_nil) (pm_cons (pm_lst true (pm_cons pm_int pm_nil)) (pm_cons (pm_lst true (pm_cons pm_str pm_nil)) (pm_cons pm_dic0 (pm_cons (pm_dicC [("a", 0)] (pps_cons pe_str pe_int pps_nil)) (pm_cons (pm_tup (pm_cons (pm_lst true pm_nil) pm_nil)) (pm_cons (pm_tup (pm_cons pm_non pm_nil)) (pm_cons (pm_tup (pm_cons (pm_tup pm_nil) pm_nil)) (pm_cons (pm_tup (pm_cons pm_str pm_nil)) (pm_cons (pm_tup (pm_cons pm_str (pm_cons pm_str pm_nil))) (pm_cons (pm_tup (pm_cons pm_str (pm_cons pm_str pm_nil))) pm_nil)))))))))))))) (pms_one (pm_ret (pm_call true (wk__law_of T) hr g tk (by rfl) (pm_cons (pm_v 0) (pm_cons (pm_op op_addM (ok_add true) (pm_v 1) (pm_lst true (pm_cons (pm_tup (pm_cons pm_str (pm_cons pm_str (pm_cons pm_str pm_nil)))) (pm_cons (pm_tup (pm_cons pm_str (pm_cons (pm_tup (pm_cons pm_str pm_nil)) pm_nil))) (pm_cons (pm_tup (pm_cons pm_bl pm_nil)) pm_nil))))) pm_nil)))))))) fa fd F
theorem wk__law_odd (T : Txt P K mg base cl co Pt) : CalG P w K mg base cl 3 "_law_odd" 1 m__law_odd := calG_of T.a__law_odd (binds_of fun _ _ _ _ _ _ us hl => match us, hl with | [_], _ => rfl) (wf__law_odd T)
theorem wf__law_places (T : Txt P K mg base cl co Pt) (fa : Addr) (fd : FuncData) (F : Fun K "_law_places" "_law_places" s__law_places fa fd) : FnG P w K mg base 1 fa fd ["sheet_now"] (spF K cl 1 m__law_places) :=
  fnD (b := b__law_places) sc__law_places (fun fa cdv A outer s H E g hr tk =>
    pms_one (pm_ret (pm_op op_addM (ok_add false) (pm_index (hu65 hr) (pm_lst true (pm_cons pm_int (pm_cons pm_int (pm_cons pm_int pm_nil)))) (pm_b (nm := "") call_len (ok_len) T.z_len (by rfl) (pm_cons (pm_v 0) pm_nil))) pm_int))) fa fd F
theorem wk__law_places (T : Txt P K mg base cl co Pt) : CalG P w K mg base cl 1 "_law_places" 1 m__law_places := calG_of T.a__law_places (binds_of fun _ _ _ _ _ _ us hl => match us, hl with | [_], _ => rfl) (wf__law_places T)
theorem wf__law_table (T : Txt P K mg base cl co Pt) (fa : Addr) (fd : FuncData) (F : Fun K "_law_table" "_law_table" s__law_table fa fd) : FnG P w K mg base 3 fa fd ["spring", "size"] (spF K cl 2 m__law_table) :=
  fnD (b := b__law_table) sc__law_table (fun fa cdv A outer s H E g hr tk =>
    pms_cons (pm_set 2 sc__law_table.nd (pm_lst false (pm_cons (pm_lst true (pm_cons pm_str (pm_cons pm_str (pm_cons pm_str (pm_cons pm_str (pm_cons pm_str (pm_cons pm_str (pm_cons pm_str (pm_cons pm_str (pm_cons pm_str (pm_cons pm_str pm_nil))))))))))) pm_nil))) (pms_cons (pm_exp (pm_append (pm_v 2) (pm_lst true (pm_cons pm_str (pm_cons pm_str (pm_cons pm_str (pm_cons pm_str (pm_cons pm_str (pm_cons pm_str pm_nil))))))))) (pms_cons (pm_asg (pm_op op_addM (ok_add true) (pm_ix ix_seq ok_ix (pm_v 2) pm_int) (pm_lst true (pm_cons pm_str (pm_cons pm_str pm_nil)))) (pg_sub (pm_v 2) pm_int set_list) (tg_sub (W := W0) rfl rfl)) (pms_cons (pm_ifs (PW.pt (pw_andM (pt_cmpM op_lt ok_fLt (pm_v 1) pm_int) (pw_and1M (pt_cmpM (op_eqM (hu64 hr)) ok_eq (pm_call false (wk__law_draw T) hr g tk (by rfl) (pm_cons (pm_v 0) (pm_cons pm_int pm_nil))) pm_int)))) (pms_one (pm_ret (pm_call true (wk__law_of T) hr g tk (by rfl) (pm_cons (pm_v 0) (pm_cons (pm_ix ix_seq ok_ix (pm_v 2) (pm_op op_sub ok_fSub (pm_v 1) pm_int)) pm_nil))))) pms_nil) (pms_one (pm_ret (pm_join pm_str (pm_lc true (own := [("k", 3)]) rfl sc__law_table.nd (pi_r1 T.z_range (pm_ix ix_seq ok_ix (pm_lst true (pm_cons pm_int (pm_cons pm_int (pm_cons pm_int pm_nil)))) (pm_op op_sub ok_fSub (pm_v 1) pm_int))) (blkOk_by (N := N__law_table) (sc := (defScope s__law_table)) (own := [("k", 3)]) (by decide +kernel)) (fun _ _ _ _ _ => (pg_name (i := 3) sc__law_table.nd rfl (by first | exact Or.inl rfl | exact Or.inr rfl))) (tgc_name 3 (by decide)) (fun _ _ _ _ _ => pts_nil) (fun _ _ _ => tYes_ok) (fun _ _ _ _ _ => (pm_t call_strM (ok_str) T.z_str (by rfl) (pm_cons (pm_call false (wk__law_draw T) hr g takes0 (by rfl) (pm_cons (pm_v 0) (pm_cons pm_int pm_nil))) pm_nil))))))))))) fa fd F
theorem wk__law_table (T : Txt P K mg base cl co Pt) : CalG P w K mg base cl 3 "_law_table" 2 m__law_table := calG_of T.a__law_table (binds_of fun _ _ _ _ _ _ us hl => match us, hl with | [_, _], _ => rfl) (wf__law_table T)
theorem wf__law_error (T : Txt P K mg base cl co Pt) (i : Nat) (hi : i ∈ ([2, 3, 4, 5, 6] : List Nat)) (fa : Addr) (fd : FuncData) (F : Fun K "_law_error" "_law_error" s__law_error fa fd) : FnE P w K mg base C8.CX0 1 fa fd ["e"] (spE K cl.T (cl.f i) 1 (m__law_error i)) :=
  fnE_M (k := 0) (b := (b__law_error i)) F sc__law_error (fun cdv A outer s H E p dd hr hE =>
    pms_cons (pm_set 1 sc__law_error.nd (pm_lst true (pm_cons (pm_isXC 0 hE T.er hi (by decide) rfl rfl rfl (pm_v 0) T.z_isinstance) (pm_cons (pm_isXC 1 hE T.er hi (by decide) rfl rfl rfl (pm_v 0) T.z_isinstance) (pm_cons (pm_isXC 2 hE T.er hi (by decide) rfl rfl rfl (pm_v 0) T.z_isinstance) pm_nil))))) (pms_cons (pm_set 1 sc__law_error.nd (pm_op op_addM (ok_add true) (pm_v 1) (pm_lst true (pm_cons (pm_isXC 3 hE T.er hi (by decide) rfl rfl rfl (pm_v 0) T.z_isinstance) (pm_cons (pm_isXC 4 hE T.er hi (by decide) rfl rfl rfl (pm_v 0) T.z_isinstance) pm_nil))))) (pms_cons (pm_set 1 sc__law_error.nd (pm_op op_addM (ok_add true) (pm_v 1) (pm_lst true (pm_cons (pm_isXC 5 hE T.er hi (by decide) rfl rfl rfl (pm_v 0) T.z_isinstance) (pm_cons (pm_isXC 6 hE T.er hi (by decide) rfl rfl rfl (pm_v 0) T.z_isinstance) (pm_cons (pm_isXC 7 hE T.er hi (by decide) rfl rfl rfl (pm_v 0) T.z_isinstance) pm_nil)))))) (pms_cons (pm_set 1 sc__law_error.nd (pm_op op_addM (ok_add true) (pm_v 1) (pm_lst true (pm_cons (pm_isXC 8 hE T.er hi (by decide) rfl rfl rfl (pm_v 0) T.z_isinstance) (pm_cons (pm_isXC 9 hE T.er hi (by decide) rfl rfl rfl (pm_v 0) T.z_isinstance) (pm_cons (pm_isXC 10 hE T.er hi (by decide) rfl rfl rfl (pm_v 0) T.z_isinstance) pm_nil)))))) (pms_cons (pm_set 1 sc__law_error.nd (pm_op op_addM (ok_add true) (pm_v 1) (pm_lst true (pm_cons (pm_isXC 11 hE T.er hi (by decide) rfl rfl rfl (pm_v 0) T.z_isinstance) (pm_cons (pm_isXC 12 hE T.er hi (by decide) rfl rfl rfl (pm_v 0) T.z_isinstance) (pm_cons (pm_isXC 13 hE T.er hi (by decide) rfl rfl rfl (pm_v 0) T.z_isinstance) pm_nil)))))) (pms_cons (pm_set 1 sc__law_error.nd (pm_op op_addM (ok_add true) (pm_v 1) (pm_lst true (pm_cons (pm_isXC 14 hE T.er hi (by decide) rfl rfl rfl (pm_v 0) T.z_isinstance) (pm_cons (pm_isXC 15 hE T.er hi (by decide) rfl rfl rfl (pm_v 0) T.z_isinstance) pm_nil))))) (pms_cons (pm_set 1 sc__law_error.nd (pm_op op_addM (ok_add true) (pm_v 1) (pm_lst true (pm_cons (pm_isXC 16 hE T.er hi (by decide) rfl rfl rfl (pm_v 0) T.z_isinstance) (pm_cons (pm_isXC 17 hE T.er hi (by decide) rfl rfl rfl (pm_v 0) T.z_isinstance) (pm_cons (pm_isXC 18 hE T.er hi (by decide) rfl rfl rfl (pm_v 0) T.z_isinstance) pm_nil)))))) (pms_cons (pm_set 1 sc__law_error.nd (pm_op op_addM (ok_add true) (pm_v 1) (pm_lst true (pm_cons (pm_isXC 19 hE T.er hi (by decide) rfl rfl rfl (pm_v 0) T.z_isinstance) (pm_cons (pm_isXC 20 hE T.er hi (by decide) rfl rfl rfl (pm_v 0) T.z_isinstance) (pm_cons (pm_isXC 21 hE T.er hi (by decide) rfl rfl rfl (pm_v 0) T.z_isinstance) pm_nil)))))) (pms_cons (pm_set 2 sc__law_error.nd (pm_lst true (pm_cons pm_str (pm_cons pm_str (pm_cons pm_str (pm_cons pm_str (pm_cons pm_str (pm_cons pm_str pm_nil)))))))) (pms_cons (pm_set 2 sc__law_error.nd (pm_op op_addM (ok_add true) (pm_v 2) (pm_lst true (pm_cons pm_str (pm_cons pm_str (pm_cons pm_str (pm_cons pm_str (pm_cons pm_str (pm_cons pm_str pm_nil))))))))) (pms_cons (pm_set 2 sc__law_error.nd (pm_op op_addM (ok_add true) (pm_v 2) (pm_lst true (pm_cons pm_str (pm_cons pm_str (pm_cons pm_str (pm_cons pm_str (pm_cons pm_str pm_nil)))))))) (pms_cons (pm_set 2 sc__law_error.nd (pm_op op_addM (ok_add true) (pm_v 2) (pm_lst true (pm_cons pm_str (pm_cons pm_str (pm_cons pm_str (pm_cons pm_str (pm_cons pm_str pm_nil)))))))) (pms_cons (pm_set 3 sc__law_error.nd (pm_lst true (pm_cons (pm_isXC 22 hE T.er hi (by decide) rfl rfl rfl (pm_v 0) T.z_isinstance) (pm_cons (pm_isXC 23 hE T.er hi (by decide) rfl rfl rfl (pm_v 0) T.z_isinstance) (pm_cons (pm_isXC 24 hE T.er hi (by decide) rfl rfl rfl (pm_v 0) T.z_isinstance) pm_nil))))) (pms_cons (pm_set 4 sc__law_error.nd (pm_lst true (pm_cons (pm_isXB 22 hE (T.er.ce i hi) rfl rfl (pm_v 0) T.z_ValueError rfl (T.er.k1 i hi) T.z_isinstance) (pm_cons (pm_isXB 23 hE (T.er.ce i hi) rfl rfl (pm_v 0) T.z_LookupError rfl (T.er.k2 i hi) T.z_isinstance) (pm_cons (pm_isXB 24 hE (T.er.ce i hi) rfl rfl (pm_v 0) T.z_ArithmeticError rfl (T.er.k3 i hi) T.z_isinstance) pm_nil))))) (pms_cons (pm_ifs (PW.pt (pw_orM (pt_cmpM (op_neM (hu64H hr)) ok_ne (pm_lcount (hu65H hr) (pm_v 1) pm_bl) pm_int) (pw_or1M (pt_cmpM (op_neM (hu64H hr)) ok_ne (pm_v 3) (pm_v 4))))) (pms_one (pm_ret pm_str)) pms_nil) (pms_cons (pm_set 5 sc__law_error.nd (pm_index (hu65H hr) (pm_v 1) pm_bl)) (pms_one (pm_ret (pm_if (pt_cmpM (op_eqM (hu64H hr)) ok_eq (pm_v 3) (pm_lst true (pm_cons (pm_cmp op_lt ok_fLt (pm_v 5) pm_int) (pm_cons (pm_chain op_lt op_lt ok_fLt ok_fLt pm_int (pm_v 5) pm_int) (pm_cons (pm_cmp op_gt ok_fGt (pm_v 5) pm_int) pm_nil))))) (pm_ix ix_seq ok_ix (pm_v 2) (pm_v 5)) pm_str)))))))))))))))))))
theorem wf__law_field (T : Txt P K mg base cl co Pt) (i : Nat) (hi : i ∈ ([2, 3, 4, 5, 6] : List Nat)) (fa : Addr) (fd : FuncData) (F : Fun K "_law_field" "_law_field" s__law_field fa fd) : FnE P w K mg base C8.CX0 1 fa fd ["e", "word_now"] (spE K cl.T (cl.f i) 2 (m__law_field)) :=
  fnE_M (k := 0) (b := b__law_field) F sc__law_field (fun cdv A outer s H E p dd hr hE =>
    pms_cons (pm_ifs (pt_cmpM (op_inM (hu65H hr)) ok_in (pm_v 1) (pm_lst true (pm_cons pm_str (pm_cons pm_str (pm_cons pm_str (pm_cons pm_str (pm_cons pm_str (pm_cons pm_str pm_nil)))))))) (pms_one (pm_ret (pm_fldX hE (T.er.ce i hi).xf (T.er.n2 i hi) rfl rfl (pm_v 0)))) pms_nil) (pms_cons (pm_ifs (pt_cmpM (op_eqM (hu64H hr)) ok_eq (pm_v 1) pm_str) (pms_one (pm_ret (pm_lst false (pm_cons (pm_fldX hE (T.er.ce i hi).xf (T.er.n2 i hi) rfl rfl (pm_v 0)) (pm_cons (pm_fldX hE (T.er.ce i hi).xf (T.er.n3 i hi) rfl rfl (pm_v 0)) pm_nil))))) pms_nil) (pms_one (pm_ret (pm_if (pt_cmpM (op_inM (hu65H hr)) ok_in (pm_v 1) (pm_lst true (pm_cons pm_str (pm_cons pm_str pm_nil)))) pm_non (pm_fldX hE (T.er.ce i hi).xf (T.er.n1 i hi) rfl rfl (pm_v 0)))))))
theorem errF_ (T : Txt P K mg base cl co Pt) : ErrF P w K mg base cl t_law 1 (.ref (cl.f 22)) (.ref (cl.f 23)) (.ref (cl.f 24)) :=
  ⟨T.er.nm 22 (by decide), T.er.nm 23 (by decide), T.er.nm 24 (by decide), T.z_repr, fun i h => T.er.ex i (by simpa [t_law, mkErr] using h), (let ⟨fa, fd, hm, F⟩ := T.a__law_error; ⟨fa, fd, ["e"], hm, F.kp, binds_of (fun _ _ _ _ _ _ us hl => match us, hl with | [_], _ => rfl) fa fd F, fun i h => wf__law_error T i (by simpa [t_law, mkErr] using h) fa fd F⟩), (let ⟨fa, fd, hm, F⟩ := T.a__law_field; ⟨fa, fd, ["e", "word_now"], hm, F.kp, binds_of (fun _ _ _ _ _ _ us hl => match us, hl with | [_, _], _ => rfl) fa fd F, fun i h => wf__law_field T i (by simpa [t_law, mkErr] using h) fa fd F⟩)⟩
theorem wf__law_wrong (T : Txt P K mg base cl co Pt) (fa : Addr) (fd : FuncData) (F : Fun K "_law_wrong" "_law_wrong" s__law_wrong fa fd) : FnG P w K mg base 1 fa fd ["is_right", "word_now", "thing"] (spF K cl 3 m__law_wrong) :=
  fnD (b := b__law_wrong) sc__law_wrong (fun fa cdv A outer s H E g hr tk =>
    pms_one (pm_ret (pm_if (pt_truM (pm_v 0)) (pm_lst false pm_nil) (pm_lst false (pm_cons pm_str (pm_cons (pm_v 1) (pm_cons (pm_b (nm := "") (cr_reprD g (hu70 hr)) (ok_reprD) T.z_repr (by rfl) (pm_cons (pm_v 2) pm_nil)) pm_nil))))))) fa fd F
theorem wk__law_wrong (T : Txt P K mg base cl co Pt) : CalG P w K mg base cl 1 "_law_wrong" 3 m__law_wrong := calG_of T.a__law_wrong (binds_of fun _ _ _ _ _ _ us hl => match us, hl with | [_, _, _], _ => rfl) (wf__law_wrong T)
theorem wf_size_of (T : Txt P K mg base cl co Pt) (fa : Addr) (fd : FuncData) (F : Fun K "size_of" "size_of" s_size_of fa fd) : FnG P w K mg base 1 fa fd ["count"] (spF K cl 1 m_size_of) :=
  fnD (b := b_size_of) sc_size_of (fun fa cdv A outer s H E g hr tk =>
    pms_cons (pm_set 1 sc_size_of.nd pm_int) (pms_cons (pm_for (passes_of rfl) rfl (pi_r1 T.z_range (pm_v 0)) (pg_name (i := 2) sc_size_of.nd rfl (by first | exact Or.inl rfl | exact Or.inr rfl)) (tg_name 2) (pms_one (pm_set 1 sc_size_of.nd (pm_op op_mulM (ok_mul true) (pm_v 1) pm_int)))) (pms_one (pm_ret (pm_v 1))))) fa fd F
theorem wk_size_of (T : Txt P K mg base cl co Pt) : CalG P w K mg base cl 1 "size_of" 1 m_size_of := calG_of T.a_size_of (binds_of fun _ _ _ _ _ _ us hl => match us, hl with | [_], _ => rfl) (wf_size_of T)
theorem wf_is_table (T : Txt P K mg base cl co Pt) (fa : Addr) (fd : FuncData) (F : Fun K "is_table" "is_table" s_is_table fa fd) : FnG P w K mg base 2 fa fd ["value"] (spF K cl 1 m_is_table) :=
  fnD (b := b_is_table) sc_is_table (fun fa cdv A outer s H E g hr tk =>
    pms_cons (pm_ifs (PW.pt (pw_orM (pt_notM (pt_truM (pm_isi T.i_str (pm_v 0) T.z_isinstance T.z_str (by rfl)))) (pw_or1M (pt_cmpM (op_notInM (hu65 hr)) ok_notIn (pm_b (nm := "") call_len (ok_len) T.z_len (by rfl) (pm_cons (pm_v 0) pm_nil)) (pm_lc true (own := [("count", 2)]) rfl sc_is_table.nd (pi_r1 T.z_range (pm_g (by exact T.g_MOST_PLACES) (fun _ _ => r_MOST_PLACES))) (blkOk_by (N := N_is_table) (sc := (defScope s_is_table)) (own := [("count", 2)]) (by decide +kernel)) (fun _ _ _ _ _ => (pg_name (i := 2) sc_is_table.nd rfl (by first | exact Or.inl rfl | exact Or.inr rfl))) (tgc_name 2 (by decide)) (fun _ _ _ _ _ => pts_nil) (fun _ _ _ => tYes_ok) (fun _ _ _ _ _ => (pm_call false (wk_size_of T) hr g takes0 (by rfl) (pm_cons (pm_op op_addM (ok_add true) (pm_v 2) pm_int) pm_nil)))))))) (pms_one (pm_ret pm_bl)) pms_nil) (pms_one (pm_ret (pm_b (nm := "") (cr_all rfl) (ok_all) T.z_all (by rfl) (pm_cons (pm_lcV true (own := [("sign", 1)]) rfl sc_is_table.nd (pm_v 0) (blkOk_by (N := N_is_table) (sc := (defScope s_is_table)) (own := [("sign", 1)]) (by decide +kernel)) (fun _ _ _ _ _ => (pg_name (i := 1) sc_is_table.nd rfl (by first | exact Or.inl rfl | exact Or.inr rfl))) (tgc_name 1 (by decide)) (fun _ _ _ _ _ => pts_nil) (fun _ _ _ => tYes_ok) (fun _ _ _ _ _ => (pm_cmp (op_inM (hu65 hr)) ok_in (pm_v 1) (pm_g (by exact T.g_DIGITS) (fun _ _ => r_DIGITS))))) pm_nil))))) fa fd F
theorem wk_is_table (T : Txt P K mg base cl co Pt) : CalG P w K mg base cl 2 "is_table" 1 m_is_table := calG_of T.a_is_table (binds_of fun _ _ _ _ _ _ us hl => match us, hl with | [_], _ => rfl) (wf_is_table T)
theorem wf_check_table (T : Txt P K mg base cl co Pt) (fa : Addr) (fd : FuncData) (F : Fun K "check_table" "check_table" s_check_table fa fd) : FnG P w K mg base 3 fa fd ["table"] (spF K cl 1 m_check_table) :=
  fnD (b := b_check_table) sc_check_table (fun fa cdv A outer s H E g hr tk =>
    pms_one (pm_ifs (pt_notM (pt_truM (pm_call false (wk_is_table T) hr g tk (by rfl) (pm_cons (pm_v 0) pm_nil)))) (pms_one (pm_raiseE 2 T.er (by decide) T.x_InvalidTable (.inl rfl) hr tk T.noS (pm_v 0))) pms_nil)) fa fd F
theorem wk_check_table (T : Txt P K mg base cl co Pt) : CalG P w K mg base cl 3 "check_table" 1 m_check_table := calG_of T.a_check_table (binds_of fun _ _ _ _ _ _ us hl => match us, hl with | [_], _ => rfl) (wf_check_table T)
theorem wf_all_arguments (T : Txt P K mg base cl co Pt) (fa : Addr) (fd : FuncData) (F : Fun K "all_arguments" "all_arguments" s_all_arguments fa fd) : FnG P w K mg base 1 fa fd ["count"] (spF K cl 1 m_all_arguments) :=
  fnD (b := b_all_arguments) sc_all_arguments (fun fa cdv A outer s H E g hr tk =>
    pms_cons (pm_set 1 sc_all_arguments.nd (pm_lst true (pm_cons (pm_tup pm_nil) pm_nil))) (pms_cons (pm_for (passes_of rfl) rfl (pi_r1 T.z_range (pm_v 0)) (pg_name (i := 2) sc_all_arguments.nd rfl (by first | exact Or.inl rfl | exact Or.inr rfl)) (tg_name 2) (pms_one (pm_setLc2 true 1 (own := [("some", 3), ("each", 4)]) rfl sc_all_arguments.nd (sw_true rfl rfl rfl (by decide +kernel)) (pi_v (pm_v 1)) (blkOk_by (N := N_all_arguments) (sc := (defScope s_all_arguments)) (own := [("some", 3), ("each", 4)]) (by decide +kernel)) (vs1 := [4]) (by decide) (fun _ _ _ _ _ => (pg_name (i := 3) sc_all_arguments.nd rfl (by first | exact Or.inl rfl | exact Or.inr rfl))) (tgc_name 3 (by decide)) (fun _ _ _ _ _ => pts_nil) (fun _ _ _ => tYes_ok) (fun _ _ _ _ _ => (pi_r1 T.z_range pm_int)) (fun _ _ _ _ _ => (pg_name (i := 4) sc_all_arguments.nd rfl (by first | exact Or.inl rfl | exact Or.inr rfl))) (tgc_name 4 (by decide)) (fun _ _ _ _ _ => pts_nil) (fun _ _ _ => tYes_ok) (fun _ _ _ _ _ => (pm_tup (pm_star (pm_v 3) (pm_cons (pm_v 4) pm_nil))))))) (pms_one (pm_ret (pm_v 1))))) fa fd F
theorem wk_all_arguments (T : Txt P K mg base cl co Pt) : CalG P w K mg base cl 1 "all_arguments" 1 m_all_arguments := calG_of T.a_all_arguments (binds_of fun _ _ _ _ _ _ us hl => match us, hl with | [_], _ => rfl) (wf_all_arguments T)
theorem wf_places_of (T : Txt P K mg base cl co Pt) (fa : Addr) (fd : FuncData) (F : Fun K "places_of" "places_of" s_places_of fa fd) : FnG P w K mg base 2 fa fd ["table"] (spF K cl 1 m_places_of) :=
  fnD (b := b_places_of) sc_places_of (fun fa cdv A outer s H E g hr tk =>
    pms_one (pm_ret (pm_ix ix_seq ok_ix (pm_lc true (own := [("count", 1)]) rfl sc_places_of.nd (pi_r1 T.z_range (pm_g (by exact T.g_MOST_PLACES) (fun _ _ => r_MOST_PLACES))) (blkOk_by (N := N_places_of) (sc := (defScope s_places_of)) (own := [("count", 1)]) (by decide +kernel)) (fun _ _ _ _ _ => (pg_name (i := 1) sc_places_of.nd rfl (by first | exact Or.inl rfl | exact Or.inr rfl))) (tgc_name 1 (by decide)) (fun _ _ _ _ _ => (pts_one (pt_cmpM (op_eqM (hu64 hr)) ok_eq (pm_call false (wk_size_of T) hr g takes0 (by rfl) (pm_cons (pm_op op_addM (ok_add true) (pm_v 1) pm_int) pm_nil)) (pm_b (nm := "") call_len (ok_len) T.z_len (by rfl) (pm_cons (pm_v 0) pm_nil))))) (fun _ _ _ h => h) (fun _ _ _ _ _ => (pm_op op_addM (ok_add true) (pm_v 1) pm_int))) pm_int))) fa fd F
theorem wk_places_of (T : Txt P K mg base cl co Pt) : CalG P w K mg base cl 2 "places_of" 1 m_places_of := calG_of T.a_places_of (binds_of fun _ _ _ _ _ _ us hl => match us, hl with | [_], _ => rfl) (wf_places_of T)
theorem wf_index_of (T : Txt P K mg base cl co Pt) (fa : Addr) (fd : FuncData) (F : Fun K "index_of" "index_of" s_index_of fa fd) : FnG P w K mg base 1 fa fd ["arguments"] (spF K cl 1 m_index_of) :=
  fnD (b := b_index_of) sc_index_of (fun fa cdv A outer s H E g hr tk =>
    pms_cons (pm_set 1 sc_index_of.nd pm_int) (pms_cons (pm_forV (passes_of rfl) rfl (pm_v 0) (pg_name (i := 2) sc_index_of.nd rfl (by first | exact Or.inl rfl | exact Or.inr rfl)) (tg_name 2) (pms_one (pm_set 1 sc_index_of.nd (pm_op op_addM (ok_add true) (pm_op op_mulM (ok_mul true) pm_int (pm_v 1)) (pm_v 2))))) (pms_one (pm_ret (pm_v 1))))) fa fd F
theorem wk_index_of (T : Txt P K mg base cl co Pt) : CalG P w K mg base cl 1 "index_of" 1 m_index_of := calG_of T.a_index_of (binds_of fun _ _ _ _ _ _ us hl => match us, hl with | [_], _ => rfl) (wf_index_of T)
theorem wf_value_at (T : Txt P K mg base cl co Pt) (fa : Addr) (fd : FuncData) (F : Fun K "value_at" "value_at" s_value_at fa fd) : FnG P w K mg base 2 fa fd ["table", "arguments"] (spF K cl 2 m_value_at) :=
  fnD (b := b_value_at) sc_value_at (fun fa cdv A outer s H E g hr tk =>
    pms_one (pm_ret (pm_t call_intM (ok_int) T.z_int (by rfl) (pm_cons (pm_ix ix_seq ok_ix (pm_v 0) (pm_call false (wk_index_of T) hr g tk (by rfl) (pm_cons (pm_v 1) pm_nil))) pm_nil)))) fa fd F
theorem wk_value_at (T : Txt P K mg base cl co Pt) : CalG P w K mg base cl 2 "value_at" 2 m_value_at := calG_of T.a_value_at (binds_of fun _ _ _ _ _ _ us hl => match us, hl with | [_, _], _ => rfl) (wf_value_at T)
theorem wf_counts_at (T : Txt P K mg base cl co Pt) (fa : Addr) (fd : FuncData) (F : Fun K "counts_at" "counts_at" s_counts_at fa fd) : FnG P w K mg base 3 fa fd ["table", "place"] (spF K cl 2 m_counts_at) :=
  fnD (b := b_counts_at) sc_counts_at (fun fa cdv A outer s H E g hr tk =>
    pms_cons (pm_for (passes_of rfl) rfl (pi_v (pm_call false (wk_all_arguments T) hr g tk (by rfl) (pm_cons (pm_call false (wk_places_of T) hr g tk (by rfl) (pm_cons (pm_v 0) pm_nil)) pm_nil))) (pg_name (i := 2) sc_counts_at.nd rfl (by first | exact Or.inl rfl | exact Or.inr rfl)) (tg_name 2) (pms_cons (pm_setLc true 3 (own := [("each", 4)]) rfl sc_counts_at.nd (sw_true rfl rfl rfl (by decide +kernel)) (pi_r1 T.z_range pm_int) (blkOk_by (N := N_counts_at) (sc := (defScope s_counts_at)) (own := [("each", 4)]) (by decide +kernel)) (fun _ _ _ _ _ => (pg_name (i := 4) sc_counts_at.nd rfl (by first | exact Or.inl rfl | exact Or.inr rfl))) (tgc_name 4 (by decide)) (fun _ _ _ _ _ => pts_nil) (fun _ _ _ => tYes_ok) (fun _ _ _ _ _ => (pm_tup (pm_star (pm_slice true (pm_v 2) po_n (po_e (pm_v 1))) (pm_cons (pm_v 4) (pm_star (pm_slice true (pm_v 2) (po_e (pm_op op_addM (ok_add true) (pm_v 1) pm_int)) po_n) pm_nil)))))) (pms_one (pm_ifs (pt_cmpM op_gt ok_fGt (pm_lenSet T.z_len T.z_set (pm_lcV true (own := [("other", 5)]) rfl sc_counts_at.nd (pm_v 3) (blkOk_by (N := N_counts_at) (sc := (defScope s_counts_at)) (own := [("other", 5)]) (by decide +kernel)) (fun _ _ _ _ _ => (pg_name (i := 5) sc_counts_at.nd rfl (by first | exact Or.inl rfl | exact Or.inr rfl))) (tgc_name 5 (by decide)) (fun _ _ _ _ _ => pts_nil) (fun _ _ _ => tYes_ok) (fun _ _ _ _ _ => (pm_call false (wk_value_at T) hr g takes0 (by rfl) (pm_cons (pm_v 0) (pm_cons (pm_v 5) pm_nil))))) rfl) pm_int) (pms_one (pm_ret pm_bl)) pms_nil)))) (pms_one (pm_ret pm_bl))) fa fd F
theorem wk_counts_at (T : Txt P K mg base cl co Pt) : CalG P w K mg base cl 3 "counts_at" 2 m_counts_at := calG_of T.a_counts_at (binds_of fun _ _ _ _ _ _ us hl => match us, hl with | [_, _], _ => rfl) (wf_counts_at T)
theorem wf_counting_of (T : Txt P K mg base cl co Pt) (fa : Addr) (fd : FuncData) (F : Fun K "counting_of" "counting_of" s_counting_of fa fd) : FnG P w K mg base 4 fa fd ["table"] (spF K cl 1 m_counting_of) :=
  fnD (b := b_counting_of) sc_counting_of (fun fa cdv A outer s H E g hr tk =>
    pms_one (pm_ret (pm_t call_tupleZ (ok_tuple) T.z_tuple (by rfl) (pm_cons (pm_lc true (own := [("place", 1)]) rfl sc_counting_of.nd (pi_r1 T.z_range (pm_call false (wk_places_of T) hr g tk (by rfl) (pm_cons (pm_v 0) pm_nil))) (blkOk_by (N := N_counting_of) (sc := (defScope s_counting_of)) (own := [("place", 1)]) (by decide +kernel)) (fun _ _ _ _ _ => (pg_name (i := 1) sc_counting_of.nd rfl (by first | exact Or.inl rfl | exact Or.inr rfl))) (tgc_name 1 (by decide)) (fun _ _ _ _ _ => (pts_one (pt_truM (pm_call false (wk_counts_at T) hr g takes0 (by rfl) (pm_cons (pm_v 0) (pm_cons (pm_v 1) pm_nil)))))) (fun _ _ _ h => h) (fun _ _ _ _ _ => (pm_v 1))) pm_nil)))) fa fd F
theorem wk_counting_of (T : Txt P K mg base cl co Pt) : CalG P w K mg base cl 4 "counting_of" 1 m_counting_of := calG_of T.a_counting_of (binds_of fun _ _ _ _ _ _ us hl => match us, hl with | [_], _ => rfl) (wf_counting_of T)
theorem wf_counting (T : Txt P K mg base cl co Pt) (fa : Addr) (fd : FuncData) (F : Fun K "counting" "counting" s_counting fa fd) : FnG P w K mg base 5 fa fd ["table"] (spF K cl 1 m_counting) :=
  fnD (b := b_counting) sc_counting (fun fa cdv A outer s H E g hr tk =>
    pms_cons (pm_exp (pm_call false (wk_check_table T) hr g tk (by rfl) (pm_cons (pm_v 0) pm_nil))) (pms_one (pm_ret (pm_call true (wk_counting_of T) hr g tk (by rfl) (pm_cons (pm_v 0) pm_nil))))) fa fd F
theorem wk_counting (T : Txt P K mg base cl co Pt) : CalG P w K mg base cl 5 "counting" 1 m_counting := calG_of T.a_counting (binds_of fun _ _ _ _ _ _ us hl => match us, hl with | [_], _ => rfl) (wf_counting T)
theorem wf_digits_of (T : Txt P K mg base cl co Pt) (fa : Addr) (fd : FuncData) (F : Fun K "digits_of" "digits_of" s_digits_of fa fd) : FnG P w K mg base 4 fa fd ["table"] (spF K cl 1 m_digits_of) :=
  fnD (b := b_digits_of) sc_digits_of (fun fa cdv A outer s H E g hr tk =>
    pms_cons (pm_exp (pm_call false (wk_check_table T) hr g tk (by rfl) (pm_cons (pm_v 0) pm_nil))) (pms_one (pm_ret (pm_t call_tupleZ (ok_tuple) T.z_tuple (by rfl) (pm_cons (pm_lc true (own := [("sign", 1)]) rfl sc_digits_of.nd (pi_v (pm_g (by exact T.g_DIGITS) (fun _ _ => r_DIGITS))) (blkOk_by (N := N_digits_of) (sc := (defScope s_digits_of)) (own := [("sign", 1)]) (by decide +kernel)) (fun _ _ _ _ _ => (pg_name (i := 1) sc_digits_of.nd rfl (by first | exact Or.inl rfl | exact Or.inr rfl))) (tgc_name 1 (by decide)) (fun _ _ _ _ _ => pts_nil) (fun _ _ _ => tYes_ok) (fun _ _ _ _ _ => (pm_b (nm := "") call_len (ok_len) T.z_len (by rfl) (pm_cons (pm_lcV true (own := [("other", 2)]) rfl sc_digits_of.nd (pm_v 0) (blkOk_by (own := [("other", 2)]) (by rfl)) (fun _ _ _ _ _ => (pg_name (i := 2) sc_digits_of.nd rfl (by first | exact Or.inl rfl | exact Or.inr rfl))) (tgc_name 2 (by decide)) (fun _ _ _ _ _ => (pts_one (pt_cmpM (op_eqM (hu64 hr)) ok_eq (pm_v 2) (pm_v 1)))) (fun _ _ _ h => h) (fun _ _ _ _ _ => (pm_v 2))) pm_nil)))) pm_nil))))) fa fd F
theorem wk_digits_of (T : Txt P K mg base cl co Pt) : CalG P w K mg base cl 4 "digits_of" 1 m_digits_of := calG_of T.a_digits_of (binds_of fun _ _ _ _ _ _ us hl => match us, hl with | [_], _ => rfl) (wf_digits_of T)
theorem wf_fixed (T : Txt P K mg base cl co Pt) (fa : Addr) (fd : FuncData) (F : Fun K "fixed" "fixed" s_fixed fa fd) : FnG P w K mg base 4 fa fd ["table"] (spF K cl 1 m_fixed) :=
  fnD (b := b_fixed) sc_fixed (fun fa cdv A outer s H E g hr tk =>
    pms_cons (pm_exp (pm_call false (wk_check_table T) hr g tk (by rfl) (pm_cons (pm_v 0) pm_nil))) (pms_cons (pm_set 1 sc_fixed.nd (pm_call false (wk_places_of T) hr g tk (by rfl) (pm_cons (pm_v 0) pm_nil))) (pms_one (pm_ret (pm_t call_tupleZ (ok_tuple) T.z_tuple (by rfl) (pm_cons (pm_lc true (own := [("each", 2)]) rfl sc_fixed.nd (pi_r1 T.z_range pm_int) (blkOk_by (N := N_fixed) (sc := (defScope s_fixed)) (own := [("each", 2)]) (by decide +kernel)) (fun _ _ _ _ _ => (pg_name (i := 2) sc_fixed.nd rfl (by first | exact Or.inl rfl | exact Or.inr rfl))) (tgc_name 2 (by decide)) (fun _ _ _ _ _ => (pts_one (pt_cmpM (op_eqM (hu64 hr)) ok_eq (pm_call false (wk_value_at T) hr g takes0 (by rfl) (pm_cons (pm_v 0) (pm_cons (pm_op op_mulM (ok_mul true) (pm_tup (pm_cons (pm_v 2) pm_nil)) (pm_v 1)) pm_nil))) (pm_v 2)))) (fun _ _ _ h => h) (fun _ _ _ _ _ => (pm_v 2))) pm_nil)))))) fa fd F
theorem wk_fixed (T : Txt P K mg base cl co Pt) : CalG P w K mg base cl 4 "fixed" 1 m_fixed := calG_of T.a_fixed (binds_of fun _ _ _ _ _ _ us hl => match us, hl with | [_], _ => rfl) (wf_fixed T)
theorem wf_is_full (T : Txt P K mg base cl co Pt) (fa : Addr) (fd : FuncData) (F : Fun K "is_full" "is_full" s_is_full fa fd) : FnG P w K mg base 1 fa fd ["table"] (spF K cl 1 m_is_full) :=
  fnD (b := b_is_full) sc_is_full (fun fa cdv A outer s H E g hr tk =>
    pms_one (pm_ret (pm_b (nm := "") (cr_all rfl) (ok_all) T.z_all (by rfl) (pm_cons (pm_lc true (own := [("sign", 1)]) rfl sc_is_full.nd (pi_v (pm_g (by exact T.g_DIGITS) (fun _ _ => r_DIGITS))) (blkOk_by (N := N_is_full) (sc := (defScope s_is_full)) (own := [("sign", 1)]) (by decide +kernel)) (fun _ _ _ _ _ => (pg_name (i := 1) sc_is_full.nd rfl (by first | exact Or.inl rfl | exact Or.inr rfl))) (tgc_name 1 (by decide)) (fun _ _ _ _ _ => pts_nil) (fun _ _ _ => tYes_ok) (fun _ _ _ _ _ => (pm_cmp (op_inM (hu65 hr)) ok_in (pm_v 1) (pm_v 0)))) pm_nil)))) fa fd F
theorem wk_is_full (T : Txt P K mg base cl co Pt) : CalG P w K mg base cl 1 "is_full" 1 m_is_full := calG_of T.a_is_full (binds_of fun _ _ _ _ _ _ us hl => match us, hl with | [_], _ => rfl) (wf_is_full T)
theorem wf_is_onto (T : Txt P K mg base cl co Pt) (fa : Addr) (fd : FuncData) (F : Fun K "is_onto" "is_onto" s_is_onto fa fd) : FnG P w K mg base 4 fa fd ["table"] (spF K cl 1 m_is_onto) :=
  fnD (b := b_is_onto) sc_is_onto (fun fa cdv A outer s H E g hr tk =>
    pms_cons (pm_exp (pm_call false (wk_check_table T) hr g tk (by rfl) (pm_cons (pm_v 0) pm_nil))) (pms_one (pm_ret (pm_call true (wk_is_full T) hr g tk (by rfl) (pm_cons (pm_v 0) pm_nil))))) fa fd F
theorem wk_is_onto (T : Txt P K mg base cl co Pt) : CalG P w K mg base cl 4 "is_onto" 1 m_is_onto := calG_of T.a_is_onto (binds_of fun _ _ _ _ _ _ us hl => match us, hl with | [_], _ => rfl) (wf_is_onto T)
theorem wf_places (T : Txt P K mg base cl co Pt) (fa : Addr) (fd : FuncData) (F : Fun K "places" "places" s_places fa fd) : FnG P w K mg base 4 fa fd ["table"] (spF K cl 1 m_places) :=
  fnD (b := b_places) sc_places (fun fa cdv A outer s H E g hr tk =>
    pms_cons (pm_exp (pm_call false (wk_check_table T) hr g tk (by rfl) (pm_cons (pm_v 0) pm_nil))) (pms_one (pm_ret (pm_call true (wk_places_of T) hr g tk (by rfl) (pm_cons (pm_v 0) pm_nil))))) fa fd F
theorem wk_places (T : Txt P K mg base cl co Pt) : CalG P w K mg base cl 4 "places" 1 m_places := calG_of T.a_places (binds_of fun _ _ _ _ _ _ us hl => match us, hl with | [_], _ => rfl) (wf_places T)
theorem wf_table_from (T : Txt P K mg base cl co Pt) (fa : Addr) (fd : FuncData) (F : Fun K "table_from" "table_from" s_table_from fa fd) : FnG P w K mg base 1 fa fd ["values"] (spF K cl 1 m_table_from) :=
  fnD (b := b_table_from) sc_table_from (fun fa cdv A outer s H E g hr tk =>
    pms_one (pm_ret (pm_join pm_str (pm_lcV true (own := [("each", 1)]) rfl sc_table_from.nd (pm_v 0) (blkOk_by (N := N_table_from) (sc := (defScope s_table_from)) (own := [("each", 1)]) (by decide +kernel)) (fun _ _ _ _ _ => (pg_name (i := 1) sc_table_from.nd rfl (by first | exact Or.inl rfl | exact Or.inr rfl))) (tgc_name 1 (by decide)) (fun _ _ _ _ _ => pts_nil) (fun _ _ _ => tYes_ok) (fun _ _ _ _ _ => (pm_t call_strM (ok_str) T.z_str (by rfl) (pm_cons (pm_v 1) pm_nil))))))) fa fd F
theorem wk_table_from (T : Txt P K mg base cl co Pt) : CalG P w K mg base cl 1 "table_from" 1 m_table_from := calG_of T.a_table_from (binds_of fun _ _ _ _ _ _ us hl => match us, hl with | [_], _ => rfl) (wf_table_from T)
theorem wf_put_in (T : Txt P K mg base cl co Pt) (fa : Addr) (fd : FuncData) (F : Fun K "put_in" "put_in" s_put_in fa fd) : FnG P w K mg base 3 fa fd ["table", "some"] (spF K cl 2 m_put_in) :=
  fnD (b := b_put_in) sc_put_in (fun fa cdv A outer s H E g hr tk =>
    pms_cons (pm_set 2 sc_put_in.nd (pm_call false (wk_places_of T) hr g tk (by rfl) (pm_cons (pm_ix ix_seq ok_ix (pm_v 1) pm_int) pm_nil))) (pms_cons (pm_set 3 sc_put_in.nd (pm_lst false pm_nil)) (pms_cons (pm_for (passes_of rfl) rfl (pi_v (pm_call false (wk_all_arguments T) hr g tk (by rfl) (pm_cons (pm_v 2) pm_nil))) (pg_name (i := 4) sc_put_in.nd rfl (by first | exact Or.inl rfl | exact Or.inr rfl)) (tg_name 4) (pms_one (pm_exp (pm_append (pm_v 3) (pm_call false (wk_value_at T) hr g tk (by rfl) (pm_cons (pm_v 0) (pm_cons (pm_lcV true (own := [("other", 5)]) rfl sc_put_in.nd (pm_v 1) (blkOk_by (N := N_put_in) (sc := (defScope s_put_in)) (own := [("other", 5)]) (by decide +kernel)) (fun _ _ _ _ _ => (pg_name (i := 5) sc_put_in.nd rfl (by first | exact Or.inl rfl | exact Or.inr rfl))) (tgc_name 5 (by decide)) (fun _ _ _ _ _ => pts_nil) (fun _ _ _ => tYes_ok) (fun _ _ _ _ _ => (pm_call false (wk_value_at T) hr g takes0 (by rfl) (pm_cons (pm_v 5) (pm_cons (pm_v 4) pm_nil))))) pm_nil))))))) (pms_one (pm_ret (pm_call true (wk_table_from T) hr g tk (by rfl) (pm_cons (pm_v 3) pm_nil))))))) fa fd F
theorem wk_put_in (T : Txt P K mg base cl co Pt) : CalG P w K mg base cl 3 "put_in" 2 m_put_in := calG_of T.a_put_in (binds_of fun _ _ _ _ _ _ us hl => match us, hl with | [_, _], _ => rfl) (wf_put_in T)
theorem wf_put_together (T : Txt P K mg base cl co Pt) (fa : Addr) (fd : FuncData) (F : Fun K "put_together" "put_together" s_put_together fa fd) : FnG P w K mg base 4 fa fd ["table", "tables"] (spF K cl 2 m_put_together) :=
  fnD (b := b_put_together) sc_put_together (fun fa cdv A outer s H E g hr tk =>
    pms_cons (pm_exp (pm_call false (wk_check_table T) hr g tk (by rfl) (pm_cons (pm_v 0) pm_nil))) (pms_cons (pm_ifs (PW.pt (pw_orM (pt_notM (pt_truM (pm_isi T.i_tuple (pm_v 1) T.z_isinstance T.z_tuple (by rfl)))) (pw_orM (pt_cmpM (op_neM (hu64 hr)) ok_ne (pm_b (nm := "") call_len (ok_len) T.z_len (by rfl) (pm_cons (pm_v 1) pm_nil)) (pm_call false (wk_places_of T) hr g tk (by rfl) (pm_cons (pm_v 0) pm_nil))) (pw_or1M (pt_notM (pt_truM (pm_b (nm := "") (cr_all rfl) (ok_all) T.z_all (by rfl) (pm_cons (pm_lcV true (own := [("each", 2)]) rfl sc_put_together.nd (pm_v 1) (blkOk_by (N := N_put_together) (sc := (defScope s_put_together)) (own := [("each", 2)]) (by decide +kernel)) (fun _ _ _ _ _ => (pg_name (i := 2) sc_put_together.nd rfl (by first | exact Or.inl rfl | exact Or.inr rfl))) (tgc_name 2 (by decide)) (fun _ _ _ _ _ => pts_nil) (fun _ _ _ => tYes_ok) (fun _ _ _ _ _ => (pm_call false (wk_is_table T) hr g takes0 (by rfl) (pm_cons (pm_v 2) pm_nil)))) pm_nil)))))))) (pms_one (pm_raiseE 5 T.er (by decide) T.x_InvalidTables (.inl rfl) hr tk T.noS (pm_v 1))) pms_nil) (pms_cons (pm_ifs (pt_cmpM op_gt ok_fGt (pm_lenSet T.z_len T.z_set (pm_lcV true (own := [("each", 2)]) rfl sc_put_together.nd (pm_v 1) (blkOk_by (N := N_put_together) (sc := (defScope s_put_together)) (own := [("each", 2)]) (by decide +kernel)) (fun _ _ _ _ _ => (pg_name (i := 2) sc_put_together.nd rfl (by first | exact Or.inl rfl | exact Or.inr rfl))) (tgc_name 2 (by decide)) (fun _ _ _ _ _ => pts_nil) (fun _ _ _ => tYes_ok) (fun _ _ _ _ _ => (pm_b (nm := "") call_len (ok_len) T.z_len (by rfl) (pm_cons (pm_v 2) pm_nil)))) rfl) pm_int) (pms_one (pm_raiseE 5 T.er (by decide) T.x_InvalidTables (.inl rfl) hr tk T.noS (pm_v 1))) pms_nil) (pms_one (pm_ret (pm_call true (wk_put_in T) hr g tk (by rfl) (pm_cons (pm_v 0) (pm_cons (pm_v 1) pm_nil)))))))) fa fd F
theorem wk_put_together (T : Txt P K mg base cl co Pt) : CalG P w K mg base cl 4 "put_together" 2 m_put_together := calG_of T.a_put_together (binds_of fun _ _ _ _ _ _ us hl => match us, hl with | [_, _], _ => rfl) (wf_put_together T)
theorem wf_is_integer (T : Txt P K mg base cl co Pt) (fa : Addr) (fd : FuncData) (F : Fun K "is_integer" "is_integer" s_is_integer fa fd) : FnG P w K mg base 1 fa fd ["value"] (spF K cl 1 m_is_integer) :=
  fnD (b := b_is_integer) sc_is_integer (fun fa cdv A outer s H E g hr tk =>
    pms_one (pm_ret (pm_and (pm_isi T.i_int (pm_v 0) T.z_isinstance T.z_int (by rfl)) (pm_one (pm_not (pm_isi T.i_bool (pm_v 0) T.z_isinstance T.z_bool (by rfl))))))) fa fd F
theorem wk_is_integer (T : Txt P K mg base cl co Pt) : CalG P w K mg base cl 1 "is_integer" 1 m_is_integer := calG_of T.a_is_integer (binds_of fun _ _ _ _ _ _ us hl => match us, hl with | [_], _ => rfl) (wf_is_integer T)
theorem wf_is_between (T : Txt P K mg base cl co Pt) (fa : Addr) (fd : FuncData) (F : Fun K "is_between" "is_between" s_is_between fa fd) : FnG P w K mg base 2 fa fd ["value", "least", "most"] (spF K cl 3 m_is_between) :=
  fnD (b := b_is_between) sc_is_between (fun fa cdv A outer s H E g hr tk =>
    pms_one (pm_ret (pm_and (pm_call false (wk_is_integer T) hr g tk (by rfl) (pm_cons (pm_v 0) pm_nil)) (pm_one (pm_chain op_le op_le ok_fLe ok_fLe (pm_v 1) (pm_v 0) (pm_v 2)))))) fa fd F
theorem wk_is_between (T : Txt P K mg base cl co Pt) : CalG P w K mg base cl 2 "is_between" 3 m_is_between := calG_of T.a_is_between (binds_of fun _ _ _ _ _ _ us hl => match us, hl with | [_, _, _], _ => rfl) (wf_is_between T)
theorem wf_check_order (T : Txt P K mg base cl co Pt) (fa : Addr) (fd : FuncData) (F : Fun K "check_order" "check_order" s_check_order fa fd) : FnG P w K mg base 3 fa fd ["count", "order"] (spF K cl 2 m_check_order) :=
  fnD (b := b_check_order) sc_check_order (fun fa cdv A outer s H E g hr tk =>
    pms_cons (pm_ifs (PW.pt (pw_orM (pt_notM (pt_truM (pm_isi T.i_tuple (pm_v 1) T.z_isinstance T.z_tuple (by rfl)))) (pw_or1M (pt_notM (pt_truM (pm_b (nm := "") (cr_all rfl) (ok_all) T.z_all (by rfl) (pm_cons (pm_lcV true (own := [("each", 2)]) rfl sc_check_order.nd (pm_v 1) (blkOk_by (N := N_check_order) (sc := (defScope s_check_order)) (own := [("each", 2)]) (by decide +kernel)) (fun _ _ _ _ _ => (pg_name (i := 2) sc_check_order.nd rfl (by first | exact Or.inl rfl | exact Or.inr rfl))) (tgc_name 2 (by decide)) (fun _ _ _ _ _ => pts_nil) (fun _ _ _ => tYes_ok) (fun _ _ _ _ _ => (pm_call false (wk_is_between T) hr g takes0 (by rfl) (pm_cons (pm_v 2) (pm_cons pm_int (pm_cons (pm_op op_sub ok_fSub (pm_v 0) pm_int) pm_nil)))))) pm_nil))))))) (pms_one (pm_raiseE 6 T.er (by decide) T.x_InvalidOrder (.inl rfl) hr tk T.noS (pm_v 1))) pms_nil) (pms_one (pm_ifs (pt_cmpM (op_neM (hu64 hr)) ok_ne (pm_b (nm := "") cr_sortedI (ok_sortI) T.z_sorted (by rfl) (pm_cons (pm_lcV true (own := [("each", 2)]) rfl sc_check_order.nd (pm_v 1) (blkOk_by (N := N_check_order) (sc := (defScope s_check_order)) (own := [("each", 2)]) (by decide +kernel)) (fun _ _ _ _ _ => (pg_name (i := 2) sc_check_order.nd rfl (by first | exact Or.inl rfl | exact Or.inr rfl))) (tgc_name 2 (by decide)) (fun _ _ _ _ _ => pts_nil) (fun _ _ _ => tYes_ok) (fun _ _ _ _ _ => (pm_t call_intM (ok_int) T.z_int (by rfl) (pm_cons (pm_v 2) pm_nil)))) pm_nil)) (pm_listR true T.z_list T.z_range (pm_v 0) rfl)) (pms_one (pm_raiseE 6 T.er (by decide) T.x_InvalidOrder (.inl rfl) hr tk T.noS (pm_v 1))) pms_nil))) fa fd F
theorem wk_check_order (T : Txt P K mg base cl co Pt) : CalG P w K mg base cl 3 "check_order" 2 m_check_order := calG_of T.a_check_order (binds_of fun _ _ _ _ _ _ us hl => match us, hl with | [_, _], _ => rfl) (wf_check_order T)
theorem wf_renamed_of (T : Txt P K mg base cl co Pt) (fa : Addr) (fd : FuncData) (F : Fun K "renamed_of" "renamed_of" s_renamed_of fa fd) : FnG P w K mg base 3 fa fd ["table", "order"] (spF K cl 2 m_renamed_of) :=
  fnD (b := b_renamed_of) sc_renamed_of (fun fa cdv A outer s H E g hr tk =>
    pms_cons (pm_set 2 sc_renamed_of.nd (pm_op op_mulM (ok_mul false) (pm_lst true (pm_cons pm_int pm_nil)) (pm_b (nm := "") call_len (ok_len) T.z_len (by rfl) (pm_cons (pm_v 0) pm_nil)))) (pms_cons (pm_for (passes_of rfl) rfl (pi_v (pm_call false (wk_all_arguments T) hr g tk (by rfl) (pm_cons (pm_call false (wk_places_of T) hr g tk (by rfl) (pm_cons (pm_v 0) pm_nil)) pm_nil))) (pg_name (i := 3) sc_renamed_of.nd rfl (by first | exact Or.inl rfl | exact Or.inr rfl)) (tg_name 3) (pms_one (pm_asg (pm_ix ix_seq ok_ix (pm_v 1) (pm_call false (wk_value_at T) hr g tk (by rfl) (pm_cons (pm_v 0) (pm_cons (pm_v 3) pm_nil)))) (pg_sub (pm_v 2) (pm_call false (wk_index_of T) hr g takes0 (by rfl) (pm_cons (pm_lcV true (own := [("each", 4)]) rfl sc_renamed_of.nd (pm_v 3) (blkOk_by (own := [("each", 4)]) (by rfl)) (fun _ _ _ _ _ => (pg_name (i := 4) sc_renamed_of.nd rfl (by first | exact Or.inl rfl | exact Or.inr rfl))) (tgc_name 4 (by decide)) (fun _ _ _ _ _ => pts_nil) (fun _ _ _ => tYes_ok) (fun _ _ _ _ _ => (pm_ix ix_seq ok_ix (pm_v 1) (pm_v 4)))) pm_nil)) set_list) (tg_sub (W := W0) rfl rfl)))) (pms_one (pm_ret (pm_call true (wk_table_from T) hr g tk (by rfl) (pm_cons (pm_v 2) pm_nil)))))) fa fd F
theorem wk_renamed_of (T : Txt P K mg base cl co Pt) : CalG P w K mg base cl 3 "renamed_of" 2 m_renamed_of := calG_of T.a_renamed_of (binds_of fun _ _ _ _ _ _ us hl => match us, hl with | [_, _], _ => rfl) (wf_renamed_of T)
theorem wf_renamed (T : Txt P K mg base cl co Pt) (fa : Addr) (fd : FuncData) (F : Fun K "renamed" "renamed" s_renamed fa fd) : FnG P w K mg base 4 fa fd ["table", "order"] (spF K cl 2 m_renamed) :=
  fnD (b := b_renamed) sc_renamed (fun fa cdv A outer s H E g hr tk =>
    pms_cons (pm_exp (pm_call false (wk_check_table T) hr g tk (by rfl) (pm_cons (pm_v 0) pm_nil))) (pms_cons (pm_exp (pm_call false (wk_check_order T) hr g tk (by rfl) (pm_cons pm_int (pm_cons (pm_v 1) pm_nil)))) (pms_one (pm_ret (pm_call true (wk_renamed_of T) hr g tk (by rfl) (pm_cons (pm_v 0) (pm_cons (pm_v 1) pm_nil))))))) fa fd F
theorem wk_renamed (T : Txt P K mg base cl co Pt) : CalG P w K mg base cl 4 "renamed" 2 m_renamed := calG_of T.a_renamed (binds_of fun _ _ _ _ _ _ us hl => match us, hl with | [_, _], _ => rfl) (wf_renamed T)
theorem wf_turned_round (T : Txt P K mg base cl co Pt) (fa : Addr) (fd : FuncData) (F : Fun K "turned_round" "turned_round" s_turned_round fa fd) : FnG P w K mg base 4 fa fd ["table", "places_order"] (spF K cl 2 m_turned_round) :=
  fnD (b := b_turned_round) sc_turned_round (fun fa cdv A outer s H E g hr tk =>
    pms_cons (pm_exp (pm_call false (wk_check_table T) hr g tk (by rfl) (pm_cons (pm_v 0) pm_nil))) (pms_cons (pm_set 2 sc_turned_round.nd (pm_call false (wk_places_of T) hr g tk (by rfl) (pm_cons (pm_v 0) pm_nil))) (pms_cons (pm_exp (pm_call false (wk_check_order T) hr g tk (by rfl) (pm_cons (pm_v 2) (pm_cons (pm_v 1) pm_nil)))) (pms_cons (pm_setLc true 3 (own := [("some", 4)]) rfl sc_turned_round.nd (sw_true rfl rfl rfl (by decide +kernel)) (pi_v (pm_call false (wk_all_arguments T) hr g tk (by rfl) (pm_cons (pm_v 2) pm_nil))) (blkOk_by (N := N_turned_round) (sc := (defScope s_turned_round)) (own := [("some", 4)]) (by decide +kernel)) (fun _ _ _ _ _ => (pg_name (i := 4) sc_turned_round.nd rfl (by first | exact Or.inl rfl | exact Or.inr rfl))) (tgc_name 4 (by decide)) (fun _ _ _ _ _ => pts_nil) (fun _ _ _ => tYes_ok) (fun _ _ _ _ _ => (pm_call false (wk_value_at T) hr g takes0 (by rfl) (pm_cons (pm_v 0) (pm_cons (pm_lcV true (own := [("place", 5)]) rfl sc_turned_round.nd (pm_v 1) (blkOk_by (own := [("place", 5)]) (by rfl)) (fun _ _ _ _ _ => (pg_name (i := 5) sc_turned_round.nd rfl (by first | exact Or.inl rfl | exact Or.inr rfl))) (tgc_name 5 (by decide)) (fun _ _ _ _ _ => pts_nil) (fun _ _ _ => tYes_ok) (fun _ _ _ _ _ => (pm_ix ix_seq ok_ix (pm_v 4) (pm_v 5)))) pm_nil))))) (pms_one (pm_ret (pm_call true (wk_table_from T) hr g tk (by rfl) (pm_cons (pm_v 3) pm_nil)))))))) fa fd F
theorem wk_turned_round (T : Txt P K mg base cl co Pt) : CalG P w K mg base cl 4 "turned_round" 2 m_turned_round := calG_of T.a_turned_round (binds_of fun _ _ _ _ _ _ us hl => match us, hl with | [_, _], _ => rfl) (wf_turned_round T)
theorem wf_are_arguments (T : Txt P K mg base cl co Pt) (fa : Addr) (fd : FuncData) (F : Fun K "are_arguments" "are_arguments" s_are_arguments fa fd) : FnG P w K mg base 3 fa fd ["count", "value"] (spF K cl 2 m_are_arguments) :=
  fnD (b := b_are_arguments) sc_are_arguments (fun fa cdv A outer s H E g hr tk =>
    pms_one (pm_ret (pm_and (pm_isi T.i_tuple (pm_v 1) T.z_isinstance T.z_tuple (by rfl)) (pm_and (pm_cmp (op_eqM (hu64 hr)) ok_eq (pm_b (nm := "") call_len (ok_len) T.z_len (by rfl) (pm_cons (pm_v 1) pm_nil)) (pm_v 0)) (pm_one (pm_b (nm := "") (cr_all rfl) (ok_all) T.z_all (by rfl) (pm_cons (pm_lcV true (own := [("each", 2)]) rfl sc_are_arguments.nd (pm_v 1) (blkOk_by (N := N_are_arguments) (sc := (defScope s_are_arguments)) (own := [("each", 2)]) (by decide +kernel)) (fun _ _ _ _ _ => (pg_name (i := 2) sc_are_arguments.nd rfl (by first | exact Or.inl rfl | exact Or.inr rfl))) (tgc_name 2 (by decide)) (fun _ _ _ _ _ => pts_nil) (fun _ _ _ => tYes_ok) (fun _ _ _ _ _ => (pm_call false (wk_is_between T) hr g takes0 (by rfl) (pm_cons (pm_v 2) (pm_cons pm_int (pm_cons pm_int pm_nil)))))) pm_nil))))))) fa fd F
theorem wk_are_arguments (T : Txt P K mg base cl co Pt) : CalG P w K mg base cl 3 "are_arguments" 2 m_are_arguments := calG_of T.a_are_arguments (binds_of fun _ _ _ _ _ _ us hl => match us, hl with | [_, _], _ => rfl) (wf_are_arguments T)
theorem wf_value (T : Txt P K mg base cl co Pt) (fa : Addr) (fd : FuncData) (F : Fun K "value" "value" s_value fa fd) : FnG P w K mg base 4 fa fd ["table", "arguments"] (spF K cl 2 m_value) :=
  fnD (b := b_value) sc_value (fun fa cdv A outer s H E g hr tk =>
    pms_cons (pm_exp (pm_call false (wk_check_table T) hr g tk (by rfl) (pm_cons (pm_v 0) pm_nil))) (pms_cons (pm_ifs (pt_notM (pt_truM (pm_call false (wk_are_arguments T) hr g tk (by rfl) (pm_cons (pm_call false (wk_places_of T) hr g tk (by rfl) (pm_cons (pm_v 0) pm_nil)) (pm_cons (pm_v 1) pm_nil))))) (pms_one (pm_raiseE 4 T.er (by decide) T.x_InvalidArguments (.inl rfl) hr tk T.noS (pm_v 1))) pms_nil) (pms_one (pm_ret (pm_call true (wk_value_at T) hr g tk (by rfl) (pm_cons (pm_v 0) (pm_cons (pm_v 1) pm_nil))))))) fa fd F
theorem wk_value (T : Txt P K mg base cl co Pt) : CalG P w K mg base cl 4 "value" 2 m_value := calG_of T.a_value (binds_of fun _ _ _ _ _ _ us hl => match us, hl with | [_, _], _ => rfl) (wf_value T)
theorem tok_1 (T : Txt P K mg base cl co Pt) : ∀ i f, tbl_1 i = some f → 2000 ≤ i ∧ ∃ y, mg y = some (.ref (cl i)) ∧ CalG P w K mg base cl 5 y 1 f := by
  intro i f h
  unfold tbl_1 at h
  by_cases e : i = 2000
  · subst e; simp at h; subst h; exact ⟨by decide, "counting", T.f_counting, (wk_counting T).up (by decide)⟩
  rw [if_neg e] at h; clear e
  by_cases e : i = 2001
  · subst e; simp at h; subst h; exact ⟨by decide, "digits_of", T.f_digits_of, (wk_digits_of T).up (by decide)⟩
  rw [if_neg e] at h; clear e
  by_cases e : i = 2002
  · subst e; simp at h; subst h; exact ⟨by decide, "fixed", T.f_fixed, (wk_fixed T).up (by decide)⟩
  rw [if_neg e] at h; clear e
  by_cases e : i = 2003
  · subst e; simp at h; subst h; exact ⟨by decide, "is_onto", T.f_is_onto, (wk_is_onto T).up (by decide)⟩
  rw [if_neg e] at h; clear e
  by_cases e : i = 2004
  · subst e; simp at h; subst h; exact ⟨by decide, "places", T.f_places, (wk_places T).up (by decide)⟩
  rw [if_neg e] at h; clear e
  cases h
theorem wf__law_right (T : Txt P K mg base cl co Pt) (fa : Addr) (fd : FuncData) (hm : mg "_law_right" = some (.ref fa)) (F : Fun K "_law_right" "_law_right" s__law_right fa fd) : FnG P w K mg base 8 fa fd ["spring"] (spF K cl 1 m__law_right) :=
  fnDT (b := b__law_right) T.hco sc__law_right (fun fa A outer s H E g hr tk =>
    pms_cons (pm_for (passes_of rfl) rfl (pi_r1 T.z_range pm_int) (pg_name (i := 1) sc__law_right.nd rfl (by first | exact Or.inl rfl | exact Or.inr rfl)) (tg_name 1) (pms_cons (pm_set 2 sc__law_right.nd (pm_call false (wk__law_of T) hr g tk (by rfl) (pm_cons (pm_v 0) (pm_cons (pm_lst true (pm_cons pm_int (pm_cons pm_int (pm_cons pm_int pm_nil)))) pm_nil)))) (pms_cons (pm_set 3 sc__law_right.nd (pm_call false (wk__law_table T) hr g tk (by rfl) (pm_cons (pm_v 0) (pm_cons (pm_v 2) pm_nil)))) (pms_cons (pm_set 4 sc__law_right.nd (pm_call false (wk__law_of T) hr g tk (by rfl) (pm_cons (pm_v 0) (pm_cons (pm_lst true (pm_cons (pm_v 3) (pm_cons (pm_v 3) (pm_cons (pm_v 3) (pm_cons (pm_op op_addM (ok_add true) (pm_v 3) pm_str) (pm_cons (pm_slice true (pm_v 3) (po_e pm_int) po_n) (pm_cons (pm_op op_addM (ok_add true) (pm_slice true (pm_v 3) po_n (po_e (pm_un un_neg ok_neg pm_int))) pm_str) (pm_cons (pm_t (CallR.or call_list_of (CallR.or (call_list_txt rfl) (call_list_dK rfl))) (ok_list2 true) T.z_list (by rfl) (pm_cons (pm_v 3) pm_nil)) (pm_cons (pm_call false (wk__law_odd T) hr g tk (by rfl) (pm_cons (pm_v 0) pm_nil)) pm_nil))))))))) pm_nil)))) (pms_cons (pm_set 2 sc__law_right.nd (pm_if (pt_truM (pm_call false (wk__law_is_table T) hr g tk (by rfl) (pm_cons (pm_v 4) pm_nil))) (pm_call false (wk__law_places T) hr g tk (by rfl) (pm_cons (pm_v 4) pm_nil)) (pm_v 2))) (pms_cons (pm_set 5 sc__law_right.nd (pm_t call_tupleZ (ok_tuple) T.z_tuple (by rfl) (pm_cons (pm_lc true (own := [("k", 14)]) rfl sc__law_right.nd (pi_r1 T.z_range (pm_v 2)) (blkOk_by (N := N__law_right) (sc := (defScope s__law_right)) (own := [("k", 14)]) (by decide +kernel)) (fun _ _ _ _ _ => (pg_name (i := 14) sc__law_right.nd rfl (by first | exact Or.inl rfl | exact Or.inr rfl))) (tgc_name 14 (by decide)) (fun _ _ _ _ _ => pts_nil) (fun _ _ _ => tYes_ok) (fun _ _ _ _ _ => (pm_call false (wk__law_draw T) hr g takes0 (by rfl) (pm_cons (pm_v 0) (pm_cons pm_int pm_nil))))) pm_nil))) (pms_cons (pm_set 6 sc__law_right.nd (pm_lst true (pm_cons (pm_v 5) (pm_cons (pm_v 5) (pm_cons (pm_op op_addM (ok_add true) (pm_v 5) (pm_tup (pm_cons pm_int pm_nil))) (pm_cons (pm_slice true (pm_v 5) (po_e pm_int) po_n) (pm_cons (pm_t (CallR.or call_list_of (CallR.or (call_list_txt rfl) (call_list_dK rfl))) (ok_list2 true) T.z_list (by rfl) (pm_cons (pm_v 5) pm_nil)) (pm_cons (pm_op op_addM (ok_add true) (pm_tup (pm_cons pm_bl pm_nil)) (pm_slice true (pm_v 5) (po_e pm_int) po_n)) (pm_cons (pm_op op_addM (ok_add true) (pm_tup (pm_cons pm_int pm_nil)) (pm_slice true (pm_v 5) (po_e pm_int) po_n)) (pm_cons pm_non pm_nil)))))))))) (pms_cons (pm_set 5 sc__law_right.nd (pm_call false (wk__law_of T) hr g tk (by rfl) (pm_cons (pm_v 0) (pm_cons (pm_v 6) pm_nil)))) (pms_cons (pm_set 6 sc__law_right.nd (pm_lst true (pm_cons (pm_tup (pm_cons pm_int (pm_cons pm_int (pm_cons pm_int pm_nil)))) (pm_cons (pm_tup (pm_cons pm_int (pm_cons pm_int (pm_cons pm_int pm_nil)))) (pm_cons (pm_tup (pm_cons pm_int (pm_cons pm_int pm_nil))) (pm_cons (pm_tup (pm_cons pm_int (pm_cons pm_int (pm_cons pm_int pm_nil)))) (pm_cons (pm_lst true (pm_cons pm_int (pm_cons pm_int (pm_cons pm_int pm_nil)))) (pm_cons (pm_tup (pm_cons pm_int (pm_cons pm_int (pm_cons pm_int pm_nil)))) (pm_cons (pm_tup (pm_cons pm_int (pm_cons pm_bl (pm_cons pm_int pm_nil)))) (pm_cons pm_non (pm_cons (pm_tup (pm_cons pm_int pm_nil)) (pm_cons (pm_tup (pm_cons pm_int (pm_cons pm_int pm_nil))) pm_nil)))))))))))) (pms_cons (pm_set 7 sc__law_right.nd (pm_call false (wk__law_of T) hr g tk (by rfl) (pm_cons (pm_v 0) (pm_cons (pm_v 6) pm_nil)))) (pms_cons (pm_set 8 sc__law_right.nd (pm_t call_tupleZ (ok_tuple) T.z_tuple (by rfl) (pm_cons (pm_lc true (own := [("k", 14)]) rfl sc__law_right.nd (pi_r1 T.z_range (pm_v 2)) (blkOk_by (N := N__law_right) (sc := (defScope s__law_right)) (own := [("k", 14)]) (by decide +kernel)) (fun _ _ _ _ _ => (pg_name (i := 14) sc__law_right.nd rfl (by first | exact Or.inl rfl | exact Or.inr rfl))) (tgc_name 14 (by decide)) (fun _ _ _ _ _ => pts_nil) (fun _ _ _ => tYes_ok) (fun _ _ _ _ _ => (pm_call false (wk__law_table T) hr g takes0 (by rfl) (pm_cons (pm_v 0) (pm_cons pm_int pm_nil))))) pm_nil))) (pms_cons (pm_set 8 sc__law_right.nd (pm_call false (wk__law_of T) hr g tk (by rfl) (pm_cons (pm_v 0) (pm_cons (pm_lst true (pm_cons (pm_v 8) (pm_cons (pm_v 8) (pm_cons (pm_slice true (pm_v 8) (po_e pm_int) po_n) (pm_cons (pm_t (CallR.or call_list_of (CallR.or (call_list_txt rfl) (call_list_dK rfl))) (ok_list2 true) T.z_list (by rfl) (pm_cons (pm_v 8) pm_nil)) (pm_cons (pm_op op_addM (ok_add true) (pm_slice true (pm_v 8) po_n (po_e (pm_un un_neg ok_neg pm_int))) (pm_tup (pm_cons pm_str pm_nil))) (pm_cons (pm_op op_addM (ok_add true) (pm_slice true (pm_v 8) po_n (po_e (pm_un un_neg ok_neg pm_int))) (pm_tup (pm_cons pm_str pm_nil))) (pm_cons pm_non pm_nil)))))))) pm_nil)))) (pms_cons (pm_set 9 sc__law_right.nd (pm_call false (wk__law_wrong T) hr g tk (by rfl) (pm_cons (pm_call false (wk__law_is_table T) hr g tk (by rfl) (pm_cons (pm_v 4) pm_nil)) (pm_cons pm_str (pm_cons (pm_v 4) pm_nil))))) (pms_cons (pm_set 10 sc__law_right.nd (pm_and (pm_isi T.i_tuple (pm_v 5) T.z_isinstance T.z_tuple (by rfl)) (pm_and (pm_cmp (op_eqM (hu64 hr)) ok_eq (pm_b (nm := "") call_len (ok_len) T.z_len (by rfl) (pm_cons (pm_v 5) pm_nil)) (pm_v 2)) (pm_one (pm_b (nm := "") (cr_all rfl) (ok_all) T.z_all (by rfl) (pm_cons (pm_lcV true (own := [("each", 16)]) rfl sc__law_right.nd (pm_v 5) (blkOk_by (N := N__law_right) (sc := (defScope s__law_right)) (own := [("each", 16)]) (by decide +kernel)) (fun _ _ _ _ _ => (pg_name (i := 16) sc__law_right.nd rfl (by first | exact Or.inl rfl | exact Or.inr rfl))) (tgc_name 16 (by decide)) (fun _ _ _ _ _ => pts_nil) (fun _ _ _ => tYes_ok) (fun _ _ _ _ _ => (pm_call false (wk__law_is_whole T) hr g takes0 (by rfl) (pm_cons (pm_v 16) (pm_cons pm_int (pm_cons pm_int pm_nil)))))) pm_nil)))))) (pms_cons (pm_set 11 sc__law_right.nd (pm_and (pm_isi T.i_tuple (pm_v 8) T.z_isinstance T.z_tuple (by rfl)) (pm_and (pm_cmp (op_eqM (hu64 hr)) ok_eq (pm_b (nm := "") call_len (ok_len) T.z_len (by rfl) (pm_cons (pm_v 8) pm_nil)) (pm_v 2)) (pm_one (pm_b (nm := "") (cr_all rfl) (ok_all) T.z_all (by rfl) (pm_cons (pm_lcV true (own := [("each", 16)]) rfl sc__law_right.nd (pm_v 8) (blkOk_by (N := N__law_right) (sc := (defScope s__law_right)) (own := [("each", 16)]) (by decide +kernel)) (fun _ _ _ _ _ => (pg_name (i := 16) sc__law_right.nd rfl (by first | exact Or.inl rfl | exact Or.inr rfl))) (tgc_name 16 (by decide)) (fun _ _ _ _ _ => pts_nil) (fun _ _ _ => tYes_ok) (fun _ _ _ _ _ => (pm_call false (wk__law_is_table T) hr g takes0 (by rfl) (pm_cons (pm_v 16) pm_nil)))) pm_nil)))))) (pms_cons (pm_set 11 sc__law_right.nd (pm_and (pm_v 11) (pm_one (pm_b (nm := "") (cr_all rfl) (ok_all) T.z_all (by rfl) (pm_cons (pm_lcV true (own := [("each", 16)]) rfl sc__law_right.nd (pm_v 8) (blkOk_by (N := N__law_right) (sc := (defScope s__law_right)) (own := [("each", 16)]) (by decide +kernel)) (fun _ _ _ _ _ => (pg_name (i := 16) sc__law_right.nd rfl (by first | exact Or.inl rfl | exact Or.inr rfl))) (tgc_name 16 (by decide)) (fun _ _ _ _ _ => pts_nil) (fun _ _ _ => tYes_ok) (fun _ _ _ _ _ => (pm_cmp (op_eqM (hu64 hr)) ok_eq (pm_b (nm := "") call_len (ok_len) T.z_len (by rfl) (pm_cons (pm_v 16) pm_nil)) (pm_b (nm := "") call_len (ok_len) T.z_len (by rfl) (pm_cons (pm_ix ix_seq ok_ix (pm_v 8) pm_int) pm_nil))))) pm_nil))))) (pms_cons (pm_setLc false 12 (own := [("act", 15)]) rfl sc__law_right.nd (sw_true rfl rfl rfl (by decide +kernel)) (pi_v (pm_lst true (pm_cons (pm_fn (c := 2000) T.f_counting) (pm_cons (pm_fn (c := 2001) T.f_digits_of) (pm_cons (pm_fn (c := 2002) T.f_fixed) (pm_cons (pm_fn (c := 2003) T.f_is_onto) (pm_cons (pm_fn (c := 2004) T.f_places) pm_nil))))))) (blkOk_by (N := N__law_right) (sc := (defScope s__law_right)) (own := [("act", 15)]) (by decide +kernel)) (fun _ _ _ _ _ => (pg_name (i := 15) sc__law_right.nd rfl (by first | exact Or.inl rfl | exact Or.inr rfl))) (tgc_name 15 (by decide)) (fun _ _ _ _ _ => pts_nil) (fun _ _ _ => tYes_ok) (fun _ _ _ _ _ => (pm_told T.a__law_told told_s (fun _ _ _ _ _ _ _ => rfl) (errF_ T) rfl T.tab rfl T.hT hr (by decide) g (LamX.lamS_by (by rfl)) rfl (fun _ _ _ _ _ => rfl) (fun A outer s H E f c1 g hr tk => (pm_callV false (pm_v 15) (tok_1 T) hr g tk (pm_cons (pm_v 4) pm_nil)))))) (pms_cons (pm_exp (pm_append (pm_v 12) (pm_told T.a__law_told told_s (fun _ _ _ _ _ _ _ => rfl) (errF_ T) rfl T.tab rfl T.hT hr (by decide) g (LamX.lamS_by (by rfl)) rfl (fun _ _ _ _ _ => rfl) (fun A outer s H E f c1 g hr tk => (pm_call false (wk_value T) hr g tk (by rfl) (pm_cons (pm_v 4) (pm_cons (pm_v 5) pm_nil))))))) (pms_cons (pm_exp (pm_append (pm_v 12) (pm_told T.a__law_told told_s (fun _ _ _ _ _ _ _ => rfl) (errF_ T) rfl T.tab rfl T.hT hr (by decide) g (LamX.lamS_by (by rfl)) rfl (fun _ _ _ _ _ => rfl) (fun A outer s H E f c1 g hr tk => (pm_call false (wk_renamed T) hr g tk (by rfl) (pm_cons (pm_v 4) (pm_cons (pm_v 7) pm_nil))))))) (pms_cons (pm_exp (pm_append (pm_v 12) (pm_told T.a__law_told told_s (fun _ _ _ _ _ _ _ => rfl) (errF_ T) rfl T.tab rfl T.hT hr (by decide) g (LamX.lamS_by (by rfl)) rfl (fun _ _ _ _ _ => rfl) (fun A outer s H E f c1 g hr tk => (pm_call false (wk_turned_round T) hr g tk (by rfl) (pm_cons (pm_v 4) (pm_cons (pm_v 7) pm_nil))))))) (pms_cons (pm_exp (pm_append (pm_v 12) (pm_told T.a__law_told told_s (fun _ _ _ _ _ _ _ => rfl) (errF_ T) rfl T.tab rfl T.hT hr (by decide) g (LamX.lamS_by (by rfl)) rfl (fun _ _ _ _ _ => rfl) (fun A outer s H E f c1 g hr tk => (pm_call false (wk_put_together T) hr g tk (by rfl) (pm_cons (pm_v 4) (pm_cons (pm_v 8) pm_nil))))))) (pms_cons (pm_set 13 sc__law_right.nd (pm_op op_addM (ok_add false) (pm_op op_mulM (ok_mul true) (pm_lst true (pm_cons (pm_v 9) pm_nil)) pm_int) (pm_lst true (pm_cons (pm_call false (wk__law_first T) hr g tk (by rfl) (pm_cons (pm_lst true (pm_cons (pm_v 9) (pm_cons (pm_call false (wk__law_wrong T) hr g tk (by rfl) (pm_cons (pm_v 10) (pm_cons pm_str (pm_cons (pm_v 5) pm_nil)))) pm_nil))) pm_nil)) pm_nil)))) (pms_cons (pm_exp (pm_append (pm_v 13) (pm_call false (wk__law_first T) hr g tk (by rfl) (pm_cons (pm_lst true (pm_cons (pm_v 9) (pm_cons (pm_call false (wk__law_wrong T) hr g tk (by rfl) (pm_cons (pm_call false (wk__law_is_order T) hr g tk (by rfl) (pm_cons (pm_v 7) (pm_cons pm_int pm_nil))) (pm_cons pm_str (pm_cons (pm_v 7) pm_nil)))) pm_nil))) pm_nil)))) (pms_cons (pm_exp (pm_append (pm_v 13) (pm_call false (wk__law_first T) hr g tk (by rfl) (pm_cons (pm_lst true (pm_cons (pm_v 9) (pm_cons (pm_call false (wk__law_wrong T) hr g tk (by rfl) (pm_cons (pm_call false (wk__law_is_order T) hr g tk (by rfl) (pm_cons (pm_v 7) (pm_cons (pm_v 2) pm_nil))) (pm_cons pm_str (pm_cons (pm_v 7) pm_nil)))) pm_nil))) pm_nil)))) (pms_cons (pm_exp (pm_append (pm_v 13) (pm_call false (wk__law_first T) hr g tk (by rfl) (pm_cons (pm_lst true (pm_cons (pm_v 9) (pm_cons (pm_call false (wk__law_wrong T) hr g tk (by rfl) (pm_cons (pm_v 11) (pm_cons pm_str (pm_cons (pm_v 8) pm_nil)))) pm_nil))) pm_nil)))) (pms_one (pm_for (passes_of rfl) rfl (pi_r1 T.z_range pm_int) (pg_name (i := 14) sc__law_right.nd rfl (by first | exact Or.inl rfl | exact Or.inr rfl)) (tg_name 14) (pms_one (pm_ifs (PW.pt (pw_andM (pt_cmpM (op_neM (hu64 hr)) ok_ne (pm_ix ix_seq ok_ix (pm_v 12) (pm_v 14)) (pm_ix ix_seq ok_ix (pm_v 13) (pm_v 14))) (pw_and1M (PW.pt (pw_orM (pt_cmpM (op_neM (hu64 hr)) ok_ne (pm_ix ix_seq ok_ix (pm_v 13) (pm_v 14)) (pm_lst true pm_nil)) (pw_or1M (pt_cmpM (op_neM (hu64 hr)) ok_ne (pm_ix ix_seq ok_ix (pm_ix ix_seq ok_ix (pm_v 12) (pm_v 14)) pm_int) pm_str))))))) (pms_one (pm_ret pm_bl)) pms_nil))))))))))))))))))))))))))))) (pms_one (pm_ret pm_bl))) fa fd hm F
theorem wk__law_right (T : Txt P K mg base cl co Pt) : CalG P w K mg base cl 8 "_law_right" 1 m__law_right := calG_ofT T.a__law_right (binds_of fun _ _ _ _ _ _ us hl => match us, hl with | [_], _ => rfl) (wf__law_right T)
theorem wf__law_spring (T : Txt P K mg base cl co Pt) (fa : Addr) (fd : FuncData) (F : Fun K "_law_spring" "_law_spring" s__law_spring fa fd) : FnG P w K mg base 1 fa fd ["cells", "k"] (spF K cl 2 m__law_spring) :=
  fnD (b := b__law_spring) sc__law_spring (fun fa cdv A outer s H E g hr tk =>
    pms_cons (pm_set 2 sc__law_spring.nd (pm_if (pt_cmpM op_lt ok_fLt (pm_v 1) (pm_b (nm := "") call_len (ok_len) T.z_len (by rfl) (pm_cons (pm_v 0) pm_nil))) (pm_ix ix_seq ok_ix (pm_v 0) (pm_v 1)) (pm_op op_addM (ok_add true) (pm_op op_mulM (ok_mul true) pm_int (pm_v 1)) pm_int))) (pms_cons (pm_set 3 sc__law_spring.nd (pm_op op_addM (ok_add true) pm_int (pm_op op_mulM (ok_mul true) pm_int (pm_v 1)))) (pms_cons (pm_for (passes_of rfl) rfl (pi_v (pm_op op_addM (ok_add true) (pm_slice true (pm_v 0) po_n (po_e pm_int)) (pm_lst true (pm_cons (pm_v 2) pm_nil)))) (pg_name (i := 4) sc__law_spring.nd rfl (by first | exact Or.inl rfl | exact Or.inr rfl)) (tg_name 4) (pms_one (pm_set 3 sc__law_spring.nd (pm_op op_mod ok_fMod (pm_t call_intM (ok_int) T.z_int (by rfl) (pm_cons (pm_op op_addM (ok_add true) (pm_op op_addM (ok_add true) (pm_op op_mulM (ok_mul true) (pm_v 3) pm_int) (pm_t call_intM (ok_int) T.z_int (by rfl) (pm_cons (pm_v 4) pm_nil))) (pm_op op_mulM (ok_mul true) pm_int (pm_v 1))) pm_nil)) pm_int)))) (pms_one (pm_ret (pm_lst false (pm_cons (pm_if (PW.pt (pw_orM (pt_cmpM op_lt ok_fLt (pm_v 2) pm_int) (pw_or1M (pt_cmpM op_ge ok_fGe (pm_v 2) (pm_op op_pow ok_fPow pm_int pm_int))))) (pm_b (nm := "") call_abs (ok_abs) T.z_abs (by rfl) (pm_cons (pm_v 2) pm_nil)) pm_int) (pm_cons (pm_v 3) (pm_cons pm_int pm_nil))))))))) fa fd F
theorem wk__law_spring (T : Txt P K mg base cl co Pt) : CalG P w K mg base cl 1 "_law_spring" 2 m__law_spring := calG_of T.a__law_spring (binds_of fun _ _ _ _ _ _ us hl => match us, hl with | [_, _], _ => rfl) (wf__law_spring T)
theorem wf_law (T : Txt P K mg base cl co Pt) (fa : Addr) (fd : FuncData) (F : Fun K "law" "law" s_law fa fd) : FnG P w K mg base 9 fa fd ["script"] (spF K cl 1 m_law) :=
  fnD (b := b_law) sc_law (fun fa cdv A outer s H E g hr tk =>
    pms_one (pm_ret (pm_b (nm := "") (cr_all rfl) (ok_all) T.z_all (by rfl) (pm_cons (pm_lc true (own := [("k", 1)]) rfl sc_law.nd (pi_r1 T.z_range (pm_b (nm := "") (call_max2 rfl) (ok_max2) T.z_max (by rfl) (pm_cons pm_int (pm_cons (pm_b (nm := "") (call_min2 rfl) (ok_min2) T.z_min (by rfl) (pm_cons (pm_b (nm := "") call_len (ok_len) T.z_len (by rfl) (pm_cons (pm_v 0) pm_nil)) (pm_cons pm_int pm_nil))) pm_nil)))) (blkOk_by (N := N_law) (sc := (defScope s_law)) (own := [("k", 1)]) (by decide +kernel)) (fun _ _ _ _ _ => (pg_name (i := 1) sc_law.nd rfl (by first | exact Or.inl rfl | exact Or.inr rfl))) (tgc_name 1 (by decide)) (fun _ _ _ _ _ => pts_nil) (fun _ _ _ => tYes_ok) (fun _ _ _ _ _ => (pm_call false (wk__law_right T) hr g takes0 (by rfl) (pm_cons (pm_call true (wk__law_spring T) hr g takes0 (by rfl) (pm_cons (pm_v 0) (pm_cons (pm_v 1) pm_nil))) pm_nil)))) pm_nil)))) fa fd F
theorem all_mk {h : Heap} {fa : Addr} (hm : mg "law" = some (.ref fa)) (tab : PySem.W.tabIn K "_law_right" = some (co, Pt)) (hT : h.get? Pt = some (PySem.W.tabObj #[])) (hc : PySem.W.codeHdIn K co Pt = true) (nT : K.lookup Pt = none) (T : Txt0 P K mg ⟨cfn K ["counting", "digits_of", "fixed", "is_onto", "places"], [(Pt, qn_lam)]⟩ co Pt) :
    ∃ (co Pt : Addr) (fd : FuncData) (cl : Nat → Addr), h.get? Pt = some (PySem.W.tabObj #[]) ∧ PySem.W.codeHdIn K co Pt = true ∧ K.lookup Pt = none ∧ (∀ (s : Shared) (u : Value), BindsTo s fd ⟨[u], []⟩ [("script", u)]) ∧
        ∀ base : Heap, K.In base → base.Ns mainGlobals mg → LamX.TabB base mg co Pt → FnG P w K mg base 9 fa fd ["script"] (spF K ⟨cl, [(Pt, qn_lam)]⟩ 1 m_law) :=
  law_endT (P := P) (w := w) (h := h) (qn := qn_lam) (cl := cfn K ["counting", "digits_of", "fixed", "is_onto", "places"]) (j := 9) (f := m_law) (pn := "script") hm T.a_law hT hc nT (bindsL fun _ _ _ _ _ _ _ => rfl) fun base tb => wf_law ⟨T, tb⟩
end
end T3
end
noncomputable section
/-! the head by one kernel run: what the top has left, read by a Hook -/
namespace T3
open PySem PySem.Spec PyProof.Rows L2
/-! ### the written part: what the module's names reach -/
def nextO (o : Obj) : List Addr := match o.data with
  | .seq its _ => its.toList.flatMap He.refV
  | .dict es _ => es.toList.flatMap fun e => He.refV e.val
  | .func fd => He.refV fd.code ++ fd.closure.map (·.2)
  | .cls cd => [cd.ns]
  | _ => []
def nextG (g : Addr → Option Obj) (as : List Addr) : List Addr := as.flatMap fun a => match g a with
  | some o => nextO o
  | none => []
def reachG (g : Addr → Option Obj) : Nat → List Addr → List Addr
  | 0, as => as
  | n + 1, as => as ++ reachG g n (nextG g as)
def startA : List Addr := [mainGlobals, cStatics]
def frcL {α β : Type} : List α → (List α → β) → List α → β
  | [], k, acc => k acc.reverse
  | x :: r, k, acc => frcL r k (x :: acc)
theorem frcL_eq {α β : Type} (k : List α → β) : ∀ (l acc : List α), frcL l k acc = k (acc.reverse ++ l)
  | [], acc => by simp [frcL]
  | x :: r, acc => by rw [frcL, frcL_eq k r (x :: acc)]; simp
theorem frcL_nil {α β : Type} (k : List α → β) (l : List α) : frcL l k [] = k l := frcL_eq k l []
def KOf (g : Addr → Option Obj) (n : Nat) : PySem.W.Frag := He.frT g (reachG g n startA)
/-! ### functions -/
abbrev FO : Type := Option (Str × Str × Arguments × FuncBody × Scope × Addr × List Str × Value × Addr)
def foA (K : PySem.W.Frag) (a : Addr) : FO := match K.lookup a with
  | some ⟨_, _, .func fd, _⟩ => some (fd.name, fd.qualname, fd.params, fd.body, fd.scope, fd.globals, fd.closure.map (·.1), fd.defaults, fd.builtins)
  | _ => none
def codeB (K : PySem.W.Frag) (a : Addr) (q : Str) : Bool := match K.lookup a with
  | some ⟨_, _, .func fd, _⟩ => PySem.W.codeIn K fd.code q
  | _ => false
/-- a def: where it stands (a global's name; a class and its method), its name, qualified name, statement, cells -/
structure FnH where
  at_ : Str × Option Str
  name : Str
  qual : Str
  st : Stmt
  cells : List Str
def FnH.val (d : FnH) : FO := some (d.name, d.qual, defArgs d.st, .stmts (defBody d.st), defScope d.st, mainGlobals, d.cells, .none, builtinsNs)
def FnH.ok (K : PySem.W.Frag) (d : FnH) : Bool := codeB K (He.fAd K d.at_) d.qual && PySem.W.keepIn K (.ref (He.fAd K d.at_))
theorem foA_ok {K : PySem.W.Frag} {d : FnH} (e : foA K (He.fAd K d.at_) = d.val) (c : d.ok K = true) :
    ∃ oc od osl cls kV doc pm an cdv ct, K.lookup (He.fAd K d.at_) = some ⟨oc, od, .func ⟨d.name, d.qual, defArgs d.st, .stmts (defBody d.st), defScope d.st, mainGlobals, cls, .none, kV, doc, pm, an, cdv, ct, builtinsNs⟩, osl⟩ ∧ cls.map (·.1) = d.cells ∧ PySem.W.codeIn K cdv d.qual = true := by
  obtain ⟨c1, c3⟩ := He.ba c
  have c2 : (match K.lookup (He.fAd K d.at_) with
    | some ⟨_, _, .func fd, _⟩ => PySem.W.codeIn K fd.code d.qual
    | _ => false) = true := c1
  unfold foA at e
  cases q : K.lookup (He.fAd K d.at_) with
  | none =>
    rw [q] at c2
    cases c2
  | some o =>
    obtain ⟨oc, od, dt, osl⟩ := o
    rw [q] at c2 e
    cases dt with
    | func fd =>
      obtain ⟨n1, n2, n3, n4, n5, n6, n7, n8, n9, n10, n11, n12, n13, n14, n15⟩ := fd
      have e2 : (some (n1, n2, n3, n4, n5, n6, n7.map (·.1), n8, n15) : FO) = some (d.name, d.qual, defArgs d.st, .stmts (defBody d.st), defScope d.st, mainGlobals, d.cells, .none, builtinsNs) := e
      simp only [Option.some.injEq, Prod.mk.injEq] at e2
      obtain ⟨h1, h2, h3, h4, h5, h6, h7, h8, h9⟩ := e2
      subst h1 h2 h3 h4 h5 h6 h8 h9
      exact ⟨oc, od, osl, n7, n9, n10, n11, n12, n13, n14, rfl, h7, c2⟩
    | _ => cases c2
/-! ### the Hook -/
abbrev Fk : Type := PySem.W.Frag → Bool
structure Says (fs : List Fk) (ds : List FnH) (K : PySem.W.Frag) : Prop where
  b : fs.all (fun f => f K) = true
  d : ds.all (fun d => d.ok K) = true
  v : ds.map (fun d => foA K (He.fAd K d.at_)) = ds.map FnH.val
def TabH (K : PySem.W.Frag) (h : Heap) (x : Str) : Prop := ∃ co Pt, PySem.W.tabIn K x = some (co, Pt) ∧ PySem.W.codeHdIn K co Pt = true ∧ K.lookup Pt = none ∧ h.get? Pt = some (PySem.W.tabObj #[])
def tabB (g : Addr → Option Obj) (K : PySem.W.Frag) (x : Str) : Bool := match PySem.W.tabIn K x with
  | some (co, Pt) => PySem.W.codeHdIn K co Pt && (match g Pt with
    | some o => He.emptyTab o
    | none => false)
  | none => false
abbrev AlM : Type := Bool × List FO
def obsK (fs : List Fk) (ds : List FnH) (tf : List Str) (g : Addr → Option Obj) (K : PySem.W.Frag) : AlM :=
  (fs.all (fun f => f K) && (ds.all (fun d => d.ok K) && tf.all fun x => tabB g K x), ds.map fun d => foA K (He.fAd K d.at_))
def obsM (n : Nat) (fs : List Fk) (ds : List FnH) (tf : List Str) (g : Addr → Option Obj) : AlM := frcL (KOf g n) (fun K => obsK fs ds tf g K) []
def valM (ds : List FnH) : AlM := (true, ds.map FnH.val)
def SaysM (fs : List Fk) (ds : List FnH) (tf : List Str) (h : Heap) : Prop := ∃ K : PySem.W.Frag, K.In h ∧ Says fs ds K ∧ ∀ x ∈ tf, TabH K h x
theorem saysM_of {n : Nat} {fs : List Fk} {ds : List FnH} {tf : List Str} {h : Heap} (e : obsM n fs ds tf h.get? = valM ds) : SaysM fs ds tf h := by
  unfold obsM at e
  rw [frcL_nil] at e
  have e1 : (fs.all (fun f => f (KOf h.get? n)) && (ds.all (fun d => d.ok (KOf h.get? n)) && tf.all fun x => tabB h.get? (KOf h.get? n) x)) = true := congrArg (fun z : AlM => z.1) e
  have e2 : ds.map (fun d => foA (KOf h.get? n) (He.fAd (KOf h.get? n) d.at_)) = ds.map FnH.val := congrArg (fun z : AlM => z.2) e
  obtain ⟨b1, b2⟩ := He.ba e1
  obtain ⟨b2, b3⟩ := He.ba b2
  refine ⟨KOf h.get? n, He.frT_in, ⟨b1, b2, e2⟩, fun x hx => ?_⟩
  have b4 := List.all_eq_true.mp b3 x hx
  unfold tabB at b4
  split at b4
  · rename_i co Pt ht
    obtain ⟨b5, b6⟩ := He.ba b4
    refine ⟨co, Pt, ht, b5, ?_⟩
    split at b6
    · rename_i o ho
      exact ⟨He.frT_none ho b6, by rw [ho, He.emptyTab_eq b6] <;> rfl⟩
    · cases b6
  · cases b4
def hookM (n : Nat) (fs : List Fk) (ds : List FnH) (tf : List Str) : PySem.W.Hook where
  α := AlM
  obs := fun s => obsM n fs ds tf s.heap.get?
  val := fun _ => valM ds
  says := fun _ h => SaysM fs ds tf h
  of := fun _ _ e => saysM_of e
  keeps := fun _ _ _ ⟨K, hK, c, t⟩ k => ⟨K, PySem.W.Frag.In.keeps hK k, c, fun x hx => by
    obtain ⟨co, Pt, t1, t2, t3, t4⟩ := t x hx
    exact ⟨co, Pt, t1, t2, t3, k _ _ t4⟩⟩
def obM (n : Nat) (fs : List Fk) (ds : List FnH) (tf : List Str) (s : PySem.W.SharedT) : AlM := obsM n fs ds tf (HandSHeadRun.getT s)
theorem obM_eq {n : Nat} {fs : List Fk} {ds : List FnH} {tf : List Str} (s : PySem.W.SharedT) : obM n fs ds tf s = (hookM n fs ds tf).obs s.abs := by
  have e : HandSHeadRun.getT s = s.abs.heap.get? := funext (HandSHeadRun.getT_eq s)
  unfold obM
  rw [e] <;> rfl
/-! ### single facts -/
def bFree (x : Str) : Fk := fun K => decide (PySem.W.nsIn K mainGlobals x = some none)
def bGlo (x : Str) : Fk := fun K => decide (PySem.W.nsIn K mainGlobals x = some (some (.ref (He.ga K x))))
def bCon (x : Str) (v : V) : Fk := fun K => match PySem.W.nsIn K mainGlobals x with
  | some (some u) => He.relB v u
  | _ => false
def bFn (fns : List Str) (x : Str) (i : Nat) : Fk := fun K => decide (PySem.W.nsIn K mainGlobals x = some (some (.ref (cfn K fns i))))
/-- an error class's __init__ -/
def bInit (fl C : Str) : Fk := fun K => match K.lookup (He.fAd K (C, some "__init__")) with
  | some ⟨_, _, .func fd, _⟩ => (match fd.code with
    | .ref cda => (match K.lookup cda with
      | some ⟨_, _, .fields vs, _⟩ => (match (vs[2]? : Option Value) with
        | some (.str file _) => decide (fl = file)
        | _ => false)
      | _ => false)
    | _ => false) && (match fd.closure with
    | [(_, cc)] => (match K.lookup cc with
      | some ⟨_, _, .cell (some (.ref D)), _⟩ => decide (D = He.ga K C)
      | _ => false)
    | _ => false)
  | _ => false
def bX (C f : Str) (B newId initId : String) (bmB : List Value) : Fk := fun K => bGlo C K && xB K (He.ga K C) (He.fAd K (C, some "__init__")) f B newId initId bmB
section
variable {fs : List Fk} {ds : List FnH} {K : PySem.W.Frag} {h : Heap} {mg : Str → Option Value}
theorem Says.fact (c : Says fs ds K) (i : Nat) {f : Fk} (e : fs[i]? = some f) : f K = true := List.all_eq_true.mp c.b f (List.mem_of_getElem? e)
theorem Says.def_ (c : Says fs ds K) (i : Nat) {d : FnH} (e : ds[i]? = some d) :
    ∃ oc od osl cls kV doc pm an cdv ct, K.lookup (He.fAd K d.at_) = some ⟨oc, od, .func ⟨d.name, d.qual, defArgs d.st, .stmts (defBody d.st), defScope d.st, mainGlobals, cls, .none, kV, doc, pm, an, cdv, ct, builtinsNs⟩, osl⟩ ∧ cls.map (·.1) = d.cells ∧ PySem.W.codeIn K cdv d.qual = true ∧ PySem.W.keepIn K (.ref (He.fAd K d.at_)) = true := by
  have c2 := List.all_eq_true.mp c.d d (List.mem_of_getElem? e)
  have e2 : (ds.map fun d => foA K (He.fAd K d.at_))[i]? = (ds.map FnH.val)[i]? := by rw [c.v]
  rw [List.getElem?_map, List.getElem?_map, e] at e2
  obtain ⟨oc, od, osl, cls, kV, doc, pm, an, cdv, ct, h1, h2, h3⟩ := foA_ok (Option.some.inj e2) c2
  exact ⟨oc, od, osl, cls, kV, doc, pm, an, cdv, ct, h1, h2, h3, (He.ba c2).2⟩
theorem hat_ok (X : K.In h) (G : h.Ns mainGlobals mg) (c : Says fs ds K) (i j : Nat) {x : Str} {st : Stmt} (e : ds[i]? = some ⟨(x, none), x, x, st, []⟩) (f : fs[j]? = some (bGlo x)) : At K mg x st := by
  obtain ⟨oc, od, osl, cls, kV, doc, pm, an, cdv, ct, h1, h2, h3, h4⟩ := c.def_ i e
  obtain rfl : cls = [] := List.map_eq_nil_iff.mp h2
  have f2 := c.fact j f
  exact ⟨_, _, PySem.W.mg_of X G (of_decide_eq_true f2), fun_mk (st := st) h1 h3 h4⟩
theorem free_ok (X : K.In h) (G : h.Ns mainGlobals mg) (c : Says fs ds K) (j : Nat) {x : Str} (f : fs[j]? = some (bFree x)) : mg x = none := PySem.W.mg_none_of X G (of_decide_eq_true (c.fact j f))
theorem con_ok (X : K.In h) (G : h.Ns mainGlobals mg) (c : Says fs ds K) (j : Nat) {x : Str} {v : V} (f : fs[j]? = some (bCon x v)) : Cn mg x v := by
  have f2 : (match PySem.W.nsIn K mainGlobals x with
    | some (some u) => He.relB v u
    | _ => false) = true := c.fact j f
  split at f2
  · rename_i u hu
    exact ⟨u, PySem.W.mg_of X G hu, He.relB_ok f2⟩
  · cases f2
theorem fn_ok (X : K.In h) (G : h.Ns mainGlobals mg) (c : Says fs ds K) {fns : List Str} {T : List (Addr × Str)} (j : Nat) {x : Str} {i : Nat} (f : fs[j]? = some (bFn fns x i)) : mg x = some (.ref ((⟨cfn K fns, T⟩ : ClT) i)) := PySem.W.mg_of X G (of_decide_eq_true (c.fact j f))
theorem errs_ok (X : K.In h) (G : h.Ns mainGlobals mg) (c : Says fs ds K) {is : List Nat} (j : Nat) (f : fs[j]? = some (fun K => errBB K is)) : ErrG K mg (xA K) is := errG_all X G (c.fact j f)
theorem raisX_ok (X : K.In h) (G : h.Ns mainGlobals mg) (c : Says fs ds K) {prog : Program} {C qual f : Str} {st : Stmt} {B newId initId : String} {bmB : List Value} {p1 p2 p0 a1 a2 a3 a4 q1 q2 q3 q4 : Pos} (i j j2 : Nat) (e : ds[i]? = some ⟨(C, some "__init__"), "__init__", qual, st, ["__class__"]⟩)
    (ea : defArgs st = XI.ag f p1 p2) (eb : defBody st = XI.bd f p0 a1 a2 a3 a4 q1 q2 q3 q4) (es : defScope st = XI.sc f) (ln : (a2.endLine == a3.line) = true) (h1 : fs[j]? = some (bInit prog.main.file C)) (h2 : fs[j2]? = some (bX C f B newId initId bmB)) (top : (prog.main.scope.names.lookup ("super" : Str)).isSome = false)
    (base : XI.BaseX B newId initId bmB) : RaisX prog K mg C f := by
  obtain ⟨oc, od, osl, cls, kV, doc, pm, an, cdv, ct, g1, g2, g3, g4⟩ := c.def_ i e
  have k1 := c.fact j h1
  obtain ⟨k2, k3⟩ := He.ba (c.fact j2 h2)
  have g1' : K.lookup (He.fAd K (C, some "__init__")) = some ⟨oc, od, .func ⟨"__init__", qual, defArgs st, .stmts (defBody st), defScope st, mainGlobals, cls, .none, kV, doc, pm, an, cdv, ct, builtinsNs⟩, osl⟩ := g1
  unfold bInit at k1
  rw [g1'] at k1
  obtain ⟨k4, k5⟩ := He.ba k1
  cases cdv with
  | ref cda =>
    have k4' : (match K.lookup cda with
      | some ⟨_, _, .fields vs, _⟩ => (match (vs[2]? : Option Value) with
        | some (.str file _) => decide (prog.main.file = file)
        | _ => false)
      | _ => false) = true := k4
    split at k4'
    · rename_i u1 u2 vs u3 hl
      split at k4'
      · rename_i file tf hv
        match cls, g2, g1', k5 with
        | [(z, cc)], g2, g1', k5 =>
          obtain rfl : z = "__class__" := by simpa using g2
          have k5' : (match K.lookup cc with
            | some ⟨_, _, .cell (some (.ref D)), _⟩ => decide (D = He.ga K C)
            | _ => false) = true := k5
          split at k5'
          · rename_i v1 v2 D v3 hc
            have hD : D = He.ga K C := of_decide_eq_true k5'
            rw [hD] at hc
            have k3' := k3
            unfold xB at k3'
            simp only [Bool.and_eq_true, decide_eq_true_eq] at k3'
            rw [ea, eb, es] at g1'
            exact raisX_mk (f := f) (p1 := p1) (p2 := p2) (p0 := p0) (a1 := a1) (a2 := a2) (a3 := a3) (a4 := a4) (q1 := q1) (q2 := q2) (q3 := q3) (q4 := q4) X G (of_decide_eq_true k2) k3'.2.2.2.2.2.1 g1' hl hc g3 rfl ln hv (by rw [of_decide_eq_true k4']; exact BEq.rfl) top base k3
          · cases k5'
        | [], g2, _, _ => cases g2
        | _ :: _ :: _, g2, _, _ => simp at g2
      · cases k4'
    · cases k4'
  | _ => cases g3
end
/-! ### the walk over it -/
theorem walkTH {l : PySem.W.OpenLaw} {k : Nat} {q : Program} {loose : List Str} {XP : (Str → Option Value) → Heap → Prop} {YP : World → Heap → Prop} {d : DefRec} {x qn : Str} {f : Fn} (L : LawSays f)
    (hn : l.most = some 63) (hdf : d.params.defaults = []) (hr : Room k callerA)
    (F : ∀ (w : World) (mg : Str → Option Value) (fa : Addr) (h : Heap), YP w h → h.Ns mainGlobals mg → mg d.name = some (.ref fa) →
      ∃ K : PySem.W.Frag, K.In h ∧ ∃ (co Pt : Addr) (fd : FuncData) (cl : Nat → Addr), h.get? Pt = some (PySem.W.tabObj #[]) ∧ PySem.W.codeHdIn K co Pt = true ∧ K.lookup Pt = none ∧ (∀ (s : Shared) (u : Value), BindsTo s fd ⟨[u], []⟩ [(x, u)]) ∧
        ∀ base : Heap, K.In base → base.Ns mainGlobals mg → LamX.TabB base mg co Pt → FnG l.prog w K mg base k fa fd [x] (spF K ⟨cl, [(Pt, qn)]⟩ 1 f)) :
    PySem.W.WalkO q loose XP YP l.row.toRowW d [] (fun f vs => PySem.call f vs) := by
  refine Att.attach_call hn hdf fun w s₀ s₁ mg mb fa o pm cd doc a vs ns G Y ho hd hcd hmg hobj hints hlen hg => ?_
  obtain ⟨K, KX, co, Pt, fd, cl, hT, ht, nT, hb, hF⟩ := F w mg fa _ Y G.T.g hmg
  exact law_callT KX G.T.g G.T.b G.T.builtins G.T.nolimit hg hT nT (PySem.W.codeHd_of_K KX ht) G.T.bmain hobj hints (Nat.le_trans hlen (by decide)) hr hF hb fun H hH hS => spLaw L H a ns hlen hS (tabs_one hH)
end T3
namespace T3
open PySem PySem.Spec PyProof.Rows L2
def hfs0 : List Fk := [bGlo "_law_draw", bGlo "_law_first", bGlo "_law_is_whole", bGlo "_law_is_order", bGlo "_law_is_table", bGlo "_law_of", bGlo "_law_odd", bGlo "_law_places", bGlo "_law_table", bGlo "_law_error", bGlo "_law_field", bGlo "_law_told", bGlo "_law_wrong", bGlo "size_of", bGlo "is_table", bGlo "check_table", bGlo "all_arguments", bGlo "places_of", bGlo "index_of", bGlo "value_at", bGlo "counts_at", bGlo "counting_of", bGlo "counting", bGlo "digits_of", bGlo "fixed", bGlo "is_full", bGlo "is_onto", bGlo "places", bGlo "table_from", bGlo "put_in"]
def hfs1 : List Fk := [bGlo "put_together", bGlo "is_integer", bGlo "is_between", bGlo "check_order", bGlo "renamed_of", bGlo "renamed", bGlo "turned_round", bGlo "are_arguments", bGlo "value", bGlo "_law_right", bGlo "_law_spring", bGlo "law", bFree "ArithmeticError", bFree "LookupError", bFree "ValueError", bFree "abs", bFree "all", bFree "bool", bFree "divmod", bFree "int", bFree "isinstance", bFree "len", bFree "list", bFree "max", bFree "min", bFree "range", bFree "repr", bFree "set", bFree "sorted", bFree "str"]
def hfs2 : List Fk := [bFree "tuple", bCon "DIGITS" (.str "012"), bCon "MOST_PLACES" (.int 3), (fun K => errBB K [2, 3, 4, 5, 6]), bInit PySem.Challenge.pw_threevalues_k04_tables_refused.main.file "InvalidTable", bX "InvalidTable" "given" "ValueError" "ValueError.__new__" "ValueError.__init__" [.type "ValueError", .type "Exception", .type "BaseException", .type "object"], bInit PySem.Challenge.pw_threevalues_k04_tables_refused.main.file "InvalidTables", bX "InvalidTables" "given" "ValueError" "ValueError.__new__" "ValueError.__init__" [.type "ValueError", .type "Exception", .type "BaseException", .type "object"], bInit PySem.Challenge.pw_threevalues_k04_tables_refused.main.file "InvalidOrder", bX "InvalidOrder" "given" "ValueError" "ValueError.__new__" "ValueError.__init__" [.type "ValueError", .type "Exception", .type "BaseException", .type "object"], bInit PySem.Challenge.pw_threevalues_k04_tables_refused.main.file "InvalidArguments", bX "InvalidArguments" "given" "ValueError" "ValueError.__new__" "ValueError.__init__" [.type "ValueError", .type "Exception", .type "BaseException", .type "object"], bFn ["counting", "digits_of", "fixed", "is_onto", "places"] "counting" 2000, bFn ["counting", "digits_of", "fixed", "is_onto", "places"] "digits_of" 2001, bFn ["counting", "digits_of", "fixed", "is_onto", "places"] "fixed" 2002, bFn ["counting", "digits_of", "fixed", "is_onto", "places"] "is_onto" 2003, bFn ["counting", "digits_of", "fixed", "is_onto", "places"] "places" 2004, bFree "super"]
def hfs : List Fk := hfs0 ++ hfs1 ++ hfs2
def hds0 : List FnH := [⟨("_law_draw", none), "_law_draw", "_law_draw", s__law_draw, []⟩, ⟨("_law_first", none), "_law_first", "_law_first", s__law_first, []⟩, ⟨("_law_is_whole", none), "_law_is_whole", "_law_is_whole", s__law_is_whole, []⟩, ⟨("_law_is_order", none), "_law_is_order", "_law_is_order", s__law_is_order, []⟩, ⟨("_law_is_table", none), "_law_is_table", "_law_is_table", s__law_is_table, []⟩, ⟨("_law_of", none), "_law_of", "_law_of", s__law_of, []⟩, ⟨("_law_odd", none), "_law_odd", "_law_odd", s__law_odd, []⟩, ⟨("_law_places", none), "_law_places", "_law_places", s__law_places, []⟩, ⟨("_law_table", none), "_law_table", "_law_table", s__law_table, []⟩, ⟨("_law_error", none), "_law_error", "_law_error", s__law_error, []⟩, ⟨("_law_field", none), "_law_field", "_law_field", s__law_field, []⟩, ⟨("_law_told", none), "_law_told", "_law_told", s__law_told, []⟩, ⟨("_law_wrong", none), "_law_wrong", "_law_wrong", s__law_wrong, []⟩, ⟨("size_of", none), "size_of", "size_of", s_size_of, []⟩, ⟨("is_table", none), "is_table", "is_table", s_is_table, []⟩, ⟨("check_table", none), "check_table", "check_table", s_check_table, []⟩, ⟨("all_arguments", none), "all_arguments", "all_arguments", s_all_arguments, []⟩, ⟨("places_of", none), "places_of", "places_of", s_places_of, []⟩, ⟨("index_of", none), "index_of", "index_of", s_index_of, []⟩, ⟨("value_at", none), "value_at", "value_at", s_value_at, []⟩, ⟨("counts_at", none), "counts_at", "counts_at", s_counts_at, []⟩, ⟨("counting_of", none), "counting_of", "counting_of", s_counting_of, []⟩, ⟨("counting", none), "counting", "counting", s_counting, []⟩, ⟨("digits_of", none), "digits_of", "digits_of", s_digits_of, []⟩, ⟨("fixed", none), "fixed", "fixed", s_fixed, []⟩, ⟨("is_full", none), "is_full", "is_full", s_is_full, []⟩, ⟨("is_onto", none), "is_onto", "is_onto", s_is_onto, []⟩, ⟨("places", none), "places", "places", s_places, []⟩, ⟨("table_from", none), "table_from", "table_from", s_table_from, []⟩, ⟨("put_in", none), "put_in", "put_in", s_put_in, []⟩]
def hds1 : List FnH := [⟨("put_together", none), "put_together", "put_together", s_put_together, []⟩, ⟨("is_integer", none), "is_integer", "is_integer", s_is_integer, []⟩, ⟨("is_between", none), "is_between", "is_between", s_is_between, []⟩, ⟨("check_order", none), "check_order", "check_order", s_check_order, []⟩, ⟨("renamed_of", none), "renamed_of", "renamed_of", s_renamed_of, []⟩, ⟨("renamed", none), "renamed", "renamed", s_renamed, []⟩, ⟨("turned_round", none), "turned_round", "turned_round", s_turned_round, []⟩, ⟨("are_arguments", none), "are_arguments", "are_arguments", s_are_arguments, []⟩, ⟨("value", none), "value", "value", s_value, []⟩, ⟨("_law_right", none), "_law_right", "_law_right", s__law_right, []⟩, ⟨("_law_spring", none), "_law_spring", "_law_spring", s__law_spring, []⟩, ⟨("law", none), "law", "law", s_law, []⟩, ⟨("InvalidTable", some "__init__"), "__init__", "InvalidTable.__init__", inClass (topS 4) 0, ["__class__"]⟩, ⟨("InvalidTables", some "__init__"), "__init__", "InvalidTables.__init__", inClass (topS 7) 0, ["__class__"]⟩, ⟨("InvalidOrder", some "__init__"), "__init__", "InvalidOrder.__init__", inClass (topS 8) 0, ["__class__"]⟩, ⟨("InvalidArguments", some "__init__"), "__init__", "InvalidArguments.__init__", inClass (topS 6) 0, ["__class__"]⟩]
def hds : List FnH := hds0 ++ hds1
def hnm0 : List Str := ["WrongValue", "InvalidText", "InvalidNumber", "InvalidTable", "InvalidWord", "InvalidArguments", "InvalidTables", "InvalidOrder", "InvalidLot", "InvalidSheet", "InvalidName", "InvalidWish", "NotABox", "InvalidRows", "InvalidSteps", "InvalidTold", "InvalidExchanges", "InvalidWishes", "WrongName", "UnknownName", "InUse", "NoAnswer", "TooMany", "Broken", "NothingToUndo", "MOST_PLACES", "DIGITS", "is_integer", "is_between", "size_of"]
def hnm1 : List Str := ["is_table", "check_table", "places_of", "index_of", "value_at", "all_arguments", "table_from", "are_arguments", "value", "places", "counts_at", "counting_of", "counting", "is_full", "is_onto", "fixed", "digits_of", "check_order", "renamed_of", "renamed", "put_in", "put_together", "turned_round", "_law_spring", "_law_draw", "_law_of", "_law_is_whole", "_law_error", "_law_field", "_law_told"]
def hnm2 : List Str := ["_law_odd", "_law_places", "_law_table", "_law_is_table", "_law_is_order", "_law_first", "_law_wrong", "_law_right"]
def hnm : List Str := hnm0 ++ hnm1 ++ hnm2
def htf : List Str := ["_law_right"]
abbrev hq : Program := PySem.W.view (PySem.W.OpenLaw.row PySem.Challenge.rw_threevalues_k04_tables_refused).prog [71]
set_option maxHeartbeats 0 in
theorem hrun (w : World) : HandSHeadRun.RunEq (PySem.W.OpenLaw.row PySem.Challenge.rw_threevalues_k04_tables_refused) hq (hookM 4 hfs hds htf) (obM 4 hfs hds htf) 40000 hnm w := by
  intro os
  kernel_rfl
end T3
open PySem PySem.W PyProof.Rows
set_option maxRecDepth 100000 in
set_option maxHeartbeats 0 in
theorem PySem.Challenge.cw_threevalues_k04_tables_refused_holds : PySem.Challenge.rw_threevalues_k04_tables_refused.Holds := by
  w_on; o_law
  refine HandSHeadRun.head_any (r := (PySem.W.OpenLaw.row PySem.Challenge.rw_threevalues_k04_tables_refused)) (q := T3.hq) (H := T3.hookM 4 T3.hfs T3.hds T3.htf) (ob := T3.obM 4 T3.hfs T3.hds T3.htf) (M := 40000) (loose := T3.hnm) (d := HandSHeadRun.topDef (PySem.W.OpenLaw.row PySem.Challenge.rw_threevalues_k04_tables_refused).prog 71) (kwd := []) T3.obM_eq
    (by kernel_rfl) (fun s => by kernel_rfl) T3.hrun (by kernel_rfl) (by kernel_rfl) (by kernel_rfl) (by rfl) (by first | assumption | decide +kernel) (by decide +kernel) ⟨rfl, rfl, rfl, rfl, rfl, by decide +kernel⟩ ?hw ?hc
  case hw => w_witness2
  case hc =>
    refine T3.walkTH (l := PySem.Challenge.rw_threevalues_k04_tables_refused) (k := 9) (x := "script") (qn := T3.qn_lam) T3.law_holds rfl (by kernel_rfl) ⟨rfl, by decide, by decide⟩ ?F
    intro w mg fa h Y G hmg0
    obtain ⟨K, KX, c, tb⟩ := Y
    have hmg : mg ("law" : PySem.Str) = some (.ref fa) := by
      have e : (HandSHeadRun.topDef (PySem.W.OpenLaw.row PySem.Challenge.rw_threevalues_k04_tables_refused).prog 71).name = ("law" : PySem.Str) := by kernel_rfl
      rw [← e]
      exact hmg0
    obtain ⟨co, Pt, tab, hc, nT, hT⟩ := tb "_law_right" (List.mem_singleton.mpr rfl)
    refine ⟨K, KX, T3.all_mk (K := K) hmg tab hT hc nT ?_⟩
    exact ⟨T3.hat_ok KX G c 0 0 rfl rfl, T3.hat_ok KX G c 1 1 rfl rfl, T3.hat_ok KX G c 2 2 rfl rfl, T3.hat_ok KX G c 3 3 rfl rfl, T3.hat_ok KX G c 4 4 rfl rfl, T3.hat_ok KX G c 5 5 rfl rfl, T3.hat_ok KX G c 6 6 rfl rfl, T3.hat_ok KX G c 7 7 rfl rfl, T3.hat_ok KX G c 8 8 rfl rfl, T3.hat_ok KX G c 9 9 rfl rfl, T3.hat_ok KX G c 10 10 rfl rfl, T3.hat_ok KX G c 11 11 rfl rfl, T3.hat_ok KX G c 12 12 rfl rfl, T3.hat_ok KX G c 13 13 rfl rfl, T3.hat_ok KX G c 14 14 rfl rfl, T3.hat_ok KX G c 15 15 rfl rfl, T3.hat_ok KX G c 16 16 rfl rfl, T3.hat_ok KX G c 17 17 rfl rfl, T3.hat_ok KX G c 18 18 rfl rfl, T3.hat_ok KX G c 19 19 rfl rfl, T3.hat_ok KX G c 20 20 rfl rfl, T3.hat_ok KX G c 21 21 rfl rfl, T3.hat_ok KX G c 22 22 rfl rfl, T3.hat_ok KX G c 23 23 rfl rfl, T3.hat_ok KX G c 24 24 rfl rfl, T3.hat_ok KX G c 25 25 rfl rfl, T3.hat_ok KX G c 26 26 rfl rfl, T3.hat_ok KX G c 27 27 rfl rfl, T3.hat_ok KX G c 28 28 rfl rfl, T3.hat_ok KX G c 29 29 rfl rfl, T3.hat_ok KX G c 30 30 rfl rfl, T3.hat_ok KX G c 31 31 rfl rfl, T3.hat_ok KX G c 32 32 rfl rfl, T3.hat_ok KX G c 33 33 rfl rfl, T3.hat_ok KX G c 34 34 rfl rfl, T3.hat_ok KX G c 35 35 rfl rfl, T3.hat_ok KX G c 36 36 rfl rfl, T3.hat_ok KX G c 37 37 rfl rfl, T3.hat_ok KX G c 38 38 rfl rfl, T3.hat_ok KX G c 39 39 rfl rfl, T3.hat_ok KX G c 40 40 rfl rfl, T3.hat_ok KX G c 41 41 rfl rfl, T3.free_ok KX G c 42 rfl, T3.free_ok KX G c 43 rfl, T3.free_ok KX G c 44 rfl, T3.free_ok KX G c 45 rfl, T3.free_ok KX G c 46 rfl, T3.free_ok KX G c 47 rfl, T3.free_ok KX G c 48 rfl, T3.free_ok KX G c 49 rfl, T3.free_ok KX G c 50 rfl, T3.free_ok KX G c 51 rfl, T3.free_ok KX G c 52 rfl, T3.free_ok KX G c 53 rfl, T3.free_ok KX G c 54 rfl, T3.free_ok KX G c 55 rfl, T3.free_ok KX G c 56 rfl, T3.free_ok KX G c 57 rfl, T3.free_ok KX G c 58 rfl, T3.free_ok KX G c 59 rfl, T3.free_ok KX G c 60 rfl, T3.con_ok KX G c 61 rfl, T3.con_ok KX G c 62 rfl, T3.isiT_bool _, T3.isiT_int _, T3.isiT_str _, T3.isiT_tuple _, T3.errG_cfn _ (T3.errs_ok KX G c 63 rfl) (by decide), T3.raisX_ok KX G c 42 64 65 rfl rfl rfl rfl rfl rfl rfl rfl T3.base_V, T3.raisX_ok KX G c 43 66 67 rfl rfl rfl rfl rfl rfl rfl rfl T3.base_V, T3.raisX_ok KX G c 44 68 69 rfl rfl rfl rfl rfl rfl rfl rfl T3.base_V, T3.raisX_ok KX G c 45 70 71 rfl rfl rfl rfl rfl rfl rfl rfl T3.base_V, T3.fn_ok KX G c 72 rfl, T3.fn_ok KX G c 73 rfl, T3.fn_ok KX G c 74 rfl, T3.fn_ok KX G c 75 rfl, T3.fn_ok KX G c 76 rfl, T3.free_ok KX G c 77 rfl, rfl, T3.code_of KX G tab⟩


