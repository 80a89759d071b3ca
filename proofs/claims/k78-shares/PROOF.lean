import PyProof.Rows.All
import Wide.All
import OpenK.AllK
import Wide.FinOn
import HandS.ForMost
import HandS.ForExc
import HandS.Defaults
import HandS.Wide
import HandS.TupAny
import HandS.TupMul
import HandS.CallSlots
import HandS.MakeKwOnly
import HandS.IsInst
import HandS.SortInts
import HandS.Strs
import HandS.Zip
import KE.GoesEnum
import KE.KRevSl
import HandS.ExcValue
import HandS.ExcIs
import KE.SortData
import PyProof.ReprRoads
import HandS.HeadEnd
import KE.KTupSum
import HandS.Head0
import HandS.Head1
import HandS.Head2
import HandS.HeadHook1
import HandS.HeadHook2
import PySem.Challenge.RW_countfold_k78_shares
set_option Elab.async false
set_option linter.all false
set_option autoImplicit false
set_option maxRecDepth 100000
set_option maxHeartbeats 2000000
/-! Ab1: data D, what stands for it in a heap, steps of heaps, meanings of expressions and statements over data. -/
namespace Ab
open PySem L2

/-- an exception object of the class at C, caught and kept -/
def ExK (C a : Addr) : HO := .ext fun h => ∃ (oe : Obj) (vs : Array Value), h.get? a = some oe ∧ Zc (.ref C) none oe ∧ oe.data = .fields vs

/-- data: what a value stands for -/
inductive D where
  | non | bl (b : Bool) | int (i : Int) | str (s : Str) | ty (n : String) | ref (a : Addr)
  | tup (l : List D) | tpn (l : List D) | lst (l : List D) | lsk (l : List D) | obj (C : Addr) (fs : List (Str × D)) | dic (kvs : List (Key × D)) | exc (C : Addr)
  deriving Inhabited

/-- an object that may change -/
inductive MO where
  | lst (l : List D)
  | ins (C : Addr) (fs : List (Str × D))
  | dK (kvs : List (Key × D))
  | any (o : HO)

abbrev Mem := List (Addr × MO)
abbrev Rho := List (Option D)
def dom (M : Mem) : List Addr := M.map (·.1)

/-- the addresses that may change, or are reserved -/
abbrev um (F : List Addr) (M : Mem) : List Addr := dom M ++ F
mutual
inductive DV (K : PySem.W.Frag) (H : Hp) (U : List Addr) : V → D → Prop
  | non : DV K H U .non .non
  | bl (b : Bool) : DV K H U (.bl b) (.bl b)
  | int (i : Int) : DV K H U (.int i) (.int i)
  | str (s : Str) : DV K H U (.str s) (.str s)
  | ty (n : String) : DV K H U (.ty n) (.ty n)
  | ref (a : Addr) : DV K H U (.ref a) (.ref a)
  | tup {a : Addr} {xs : List V} {ds : List D} : Rd H a (.tup xs) → a ∉ U → DVs K H U xs ds → DV K H U (.ref a) (.tup ds)
  | tupK {a : Addr} {xs : List V} {ds : List D} : (∀ H', SqT K H' a xs) → DVs K H U xs ds → DV K H U (.ref a) (.tup ds)
  | tpn {a : Addr} {o : Obj} {xs : List V} {ds : List D} : H a = some (.frz o (.tup xs)) → o.dict = none → a ∉ U → DVs K H U xs ds → DV K H U (.ref a) (.tpn ds)
  | tpnK {a : Addr} {o : Obj} {xs : List V} {ds : List D} : K.lookup a = some o → o.cls = .type "tuple" → o.dict = none → (∀ H', SqT K H' a xs) → DVs K H U xs ds → DV K H U (.ref a) (.tpn ds)
  | exc {a C : Addr} : H a = some (ExK C a) → a ∉ U → DV K H U (.ref a) (.exc C)
  | lst {a : Addr} {xs : List V} {ds : List D} : H a = some (.lst xs) → a ∉ U → DVs K H U xs ds → DV K H U (.ref a) (.lst ds)
  | lsk {a : Addr} {xs : List V} {ds : List D} : Rd H a (.lst xs) → a ∉ U → DVs K H U xs ds → DV K H U (.ref a) (.lsk ds)
  | lskK {a : Addr} {xs : List V} {ds : List D} : (∀ H', SqL K H' a xs) → DVs K H U xs ds → DV K H U (.ref a) (.lsk ds)
  | obj {a C dx : Addr} {fs : List (Str × V)} {gs : List (Str × D)} : H a = some (.ins C dx fs) → a ∉ U → DFs K H U fs gs → DV K H U (.ref a) (.obj C gs)
  | dic {a : Addr} {fs : List (Key × V)} {gs : List (Key × D)} : H a = some (.dK fs) → a ∉ U → DKs K H U fs gs → DV K H U (.ref a) (.dic gs)
inductive DVs (K : PySem.W.Frag) (H : Hp) (U : List Addr) : List V → List D → Prop
  | nil : DVs K H U [] []
  | cons {v : V} {vs : List V} {d : D} {ds : List D} : DV K H U v d → DVs K H U vs ds → DVs K H U (v :: vs) (d :: ds)
inductive DFs (K : PySem.W.Frag) (H : Hp) (U : List Addr) : List (Str × V) → List (Str × D) → Prop
  | nil : DFs K H U [] []
  | cons {x : Str} {v : V} {vs : List (Str × V)} {d : D} {ds : List (Str × D)} : DV K H U v d → DFs K H U vs ds → DFs K H U ((x, v) :: vs) ((x, d) :: ds)
inductive DKs (K : PySem.W.Frag) (H : Hp) (U : List Addr) : List (Key × V) → List (Key × D) → Prop
  | nil : DKs K H U [] []
  | cons {x : Key} {v : V} {vs : List (Key × V)} {d : D} {ds : List (Key × D)} : DV K H U v d → DKs K H U vs ds → DKs K H U ((x, v) :: vs) ((x, d) :: ds)
end

/-- from (H, M) to (H', M'): what is tracked and not in M stays; what is in M' was in M or is new -/
structure Step (H : Hp) (M : Mem) (H' : Hp) (M' : Mem) : Prop where
  keep : ∀ b o, b ∉ dom M → H b = some o → H' b = some o
  new : ∀ b, b ∈ dom M' → b ∈ dom M ∨ H b = none
theorem Step.refl (H : Hp) (M : Mem) : Step H M H M := ⟨fun _ _ _ h => h, fun _ h => Or.inl h⟩
theorem Step.out {H H' : Hp} {M M' : Mem} (a : Step H M H' M') {b : Addr} {o : HO} (hb : b ∉ dom M) (h : H b = some o) : b ∉ dom M' := fun hm => by
  rcases a.new b hm with q | q
  · exact hb q
  · rw [h] at q; cases q
theorem Step.trans {H H1 H2 : Hp} {M M1 M2 : Mem} (a : Step H M H1 M1) (b : Step H1 M1 H2 M2) : Step H M H2 M2 :=
  ⟨fun c o hc h => b.keep c o (a.out hc h) (a.keep c o hc h), fun c hc => by
    by_cases hm : c ∈ dom M
    · exact Or.inl hm
    · right
      cases q : H c with
      | none => rfl
      | some o =>
        rcases b.new c hc with z | z
        · exact absurd z (a.out hm q)
        · rw [a.keep c o hm q] at z; cases z⟩

/-- what is reserved further was not tracked -/
def FrGo (H : Hp) (F F' : List Addr) : Prop := ∀ b ∈ F', b ∈ F ∨ H b = none
theorem FrGo.refl {H : Hp} {F : List Addr} : FrGo H F F := fun _ h => Or.inl h
theorem Step.keepU {H H' : Hp} {M M' : Mem} {F : List Addr} (s : Step H M H' M') {a : Addr} {u : HO} (h : H a = some u) (hn : a ∉ um F M) : H' a = some u := s.keep _ _ (fun z => hn (List.mem_append_left _ z)) h
theorem Step.outU {H H' : Hp} {M M' : Mem} {F F' : List Addr} (s : Step H M H' M') (f : FrGo H F F') {a : Addr} {u : HO} (h : H a = some u) (hn : a ∉ um F M) : a ∉ um F' M' := fun z => by
  rcases List.mem_append.mp z with z | z
  · exact s.out (fun y => hn (List.mem_append_left _ y)) h z
  · rcases f a z with q | q
    · exact hn (List.mem_append_right _ q)
    · rw [h] at q; cases q
theorem Step.rd {H H' : Hp} {M M' : Mem} {F : List Addr} (s : Step H M H' M') {a : Addr} {u : HO} (h : Rd H a u) (hn : a ∉ um F M) : Rd H' a u := by
  rcases h with h | ⟨o, h⟩
  · exact Or.inl (s.keepU h hn)
  · exact Or.inr ⟨o, s.keepU h hn⟩
theorem Step.rdOut {H H' : Hp} {M M' : Mem} {F F' : List Addr} (s : Step H M H' M') (f : FrGo H F F') {a : Addr} {u : HO} (h : Rd H a u) (hn : a ∉ um F M) : a ∉ um F' M' := by
  rcases h with h | ⟨o, h⟩
  · exact s.outU f h hn
  · exact s.outU f h hn

/-- .. what is reserved may change too -/
structure StepX (F : List Addr) (H : Hp) (M : Mem) (H' : Hp) (M' : Mem) : Prop where
  keep : ∀ b o, b ∉ um F M → H b = some o → H' b = some o
  new : ∀ b, b ∈ dom M' → b ∈ um F M ∨ H b = none
theorem Step.toX {H H' : Hp} {M M' : Mem} {F : List Addr} (s : Step H M H' M') : StepX F H M H' M' := ⟨fun b o hb e => s.keepU e hb, fun b hb => (s.new b hb).imp (fun z => List.mem_append_left _ z) _root_.id⟩
theorem StepX.keepU {H H' : Hp} {M M' : Mem} {F : List Addr} (s : StepX F H M H' M') {a : Addr} {u : HO} (h : H a = some u) (hn : a ∉ um F M) : H' a = some u := s.keep _ _ hn h
theorem StepX.outU {H H' : Hp} {M M' : Mem} {F F' : List Addr} (s : StepX F H M H' M') (f : FrGo H F F') {a : Addr} {u : HO} (h : H a = some u) (hn : a ∉ um F M) : a ∉ um F' M' := fun z => by
  rcases List.mem_append.mp z with z | z
  · rcases s.new a z with q | q
    · exact hn q
    · rw [h] at q; cases q
  · rcases f a z with q | q
    · exact hn (List.mem_append_right _ q)
    · rw [h] at q; cases q
theorem StepX.rd {H H' : Hp} {M M' : Mem} {F : List Addr} (s : StepX F H M H' M') {a : Addr} {u : HO} (h : Rd H a u) (hn : a ∉ um F M) : Rd H' a u := by
  rcases h with h | ⟨o, h⟩
  · exact Or.inl (s.keepU h hn)
  · exact Or.inr ⟨o, s.keepU h hn⟩
theorem StepX.rdOut {H H' : Hp} {M M' : Mem} {F F' : List Addr} (s : StepX F H M H' M') (f : FrGo H F F') {a : Addr} {u : HO} (h : Rd H a u) (hn : a ∉ um F M) : a ∉ um F' M' := by
  rcases h with h | ⟨o, h⟩
  · exact s.outU f h hn
  · exact s.outU f h hn
mutual
theorem DV.step2X {K : PySem.W.Frag} {H H' : Hp} {M M' : Mem} {F F' : List Addr} (s : StepX F H M H' M') (f : FrGo H F F') : ∀ {v : V} {d : D}, DV K H (um F M) v d → DV K H' (um F' M') v d
  | _, _, .non => .non
  | _, _, .bl b => .bl b
  | _, _, .int i => .int i
  | _, _, .str x => .str x
  | _, _, .ty n => .ty n
  | _, _, .ref a => .ref a
  | _, _, .tup h hn t => .tup (s.rd h hn) (s.rdOut f h hn) (DVs.step2X s f t)
  | _, _, .tupK h t => .tupK h (DVs.step2X s f t)
  | _, _, .lst h hn t => .lst (s.keepU h hn) (s.outU f h hn) (DVs.step2X s f t)
  | _, _, .lsk h hn t => .lsk (s.rd h hn) (s.rdOut f h hn) (DVs.step2X s f t)
  | _, _, .lskK h t => .lskK h (DVs.step2X s f t)
  | _, _, .tpn h hd hn t => .tpn (s.keepU h hn) hd (s.outU f h hn) (DVs.step2X s f t)
  | _, _, .tpnK h1 h2 h3 h t => .tpnK h1 h2 h3 h (DVs.step2X s f t)
  | _, _, .exc h hn => .exc (s.keepU h hn) (s.outU f h hn)
  | _, _, .obj h hn t => .obj (s.keepU h hn) (s.outU f h hn) (DFs.step2X s f t)
  | _, _, .dic h hn t => .dic (s.keepU h hn) (s.outU f h hn) (DKs.step2X s f t)
theorem DVs.step2X {K : PySem.W.Frag} {H H' : Hp} {M M' : Mem} {F F' : List Addr} (s : StepX F H M H' M') (f : FrGo H F F') : ∀ {v : List V} {d : List D}, DVs K H (um F M) v d → DVs K H' (um F' M') v d
  | _, _, .nil => .nil
  | _, _, .cons a b => .cons (DV.step2X s f a) (DVs.step2X s f b)
theorem DFs.step2X {K : PySem.W.Frag} {H H' : Hp} {M M' : Mem} {F F' : List Addr} (s : StepX F H M H' M') (f : FrGo H F F') : ∀ {v : List (Str × V)} {d : List (Str × D)}, DFs K H (um F M) v d → DFs K H' (um F' M') v d
  | _, _, .nil => .nil
  | _, _, .cons a b => .cons (DV.step2X s f a) (DFs.step2X s f b)
theorem DKs.step2X {K : PySem.W.Frag} {H H' : Hp} {M M' : Mem} {F F' : List Addr} (s : StepX F H M H' M') (f : FrGo H F F') : ∀ {v : List (Key × V)} {d : List (Key × D)}, DKs K H (um F M) v d → DKs K H' (um F' M') v d
  | _, _, .nil => .nil
  | _, _, .cons a b => .cons (DV.step2X s f a) (DKs.step2X s f b)
end
theorem DV.step2 {K : PySem.W.Frag} {H H' : Hp} {M M' : Mem} {F F' : List Addr} (s : Step H M H' M') (f : FrGo H F F') {v : V} {d : D} (h : DV K H (um F M) v d) : DV K H' (um F' M') v d := h.step2X s.toX f
theorem DVs.step2 {K : PySem.W.Frag} {H H' : Hp} {M M' : Mem} {F F' : List Addr} (s : Step H M H' M') (f : FrGo H F F') {v : List V} {d : List D} (h : DVs K H (um F M) v d) : DVs K H' (um F' M') v d := h.step2X s.toX f
theorem DFs.step2 {K : PySem.W.Frag} {H H' : Hp} {M M' : Mem} {F F' : List Addr} (s : Step H M H' M') (f : FrGo H F F') {v : List (Str × V)} {d : List (Str × D)} (h : DFs K H (um F M) v d) : DFs K H' (um F' M') v d := h.step2X s.toX f
theorem DKs.step2 {K : PySem.W.Frag} {H H' : Hp} {M M' : Mem} {F F' : List Addr} (s : Step H M H' M') (f : FrGo H F F') {v : List (Key × V)} {d : List (Key × D)} (h : DKs K H (um F M) v d) : DKs K H' (um F' M') v d := h.step2X s.toX f
theorem DV.step {K : PySem.W.Frag} {H H' : Hp} {M M' : Mem} {F : List Addr} (s : Step H M H' M') {v : V} {d : D} (h : DV K H (um F M) v d) : DV K H' (um F M') v d := h.step2 s FrGo.refl
theorem DVs.step {K : PySem.W.Frag} {H H' : Hp} {M M' : Mem} {F : List Addr} (s : Step H M H' M') {v : List V} {d : List D} (h : DVs K H (um F M) v d) : DVs K H' (um F M') v d := h.step2 s FrGo.refl
theorem DKs.step {K : PySem.W.Frag} {H H' : Hp} {M M' : Mem} {F : List Addr} (s : Step H M H' M') {v : List (Key × V)} {d : List (Key × D)} (h : DKs K H (um F M) v d) : DKs K H' (um F M') v d := h.step2 s FrGo.refl
theorem DFs.step {K : PySem.W.Frag} {H H' : Hp} {M M' : Mem} {F : List Addr} (s : Step H M H' M') {v : List (Str × V)} {d : List (Str × D)} (h : DFs K H (um F M) v d) : DFs K H' (um F M') v d := h.step2 s FrGo.refl
mutual
theorem DV.anti {K : PySem.W.Frag} {H : Hp} {U U' : List Addr} (f : ∀ a ∈ U', a ∈ U) : ∀ {v : V} {d : D}, DV K H U v d → DV K H U' v d
  | _, _, .non => .non
  | _, _, .bl b => .bl b
  | _, _, .int i => .int i
  | _, _, .str x => .str x
  | _, _, .ty n => .ty n
  | _, _, .ref a => .ref a
  | _, _, .tup h hn t => .tup h (fun z => hn (f _ z)) (DVs.anti f t)
  | _, _, .tupK h t => .tupK h (DVs.anti f t)
  | _, _, .lst h hn t => .lst h (fun z => hn (f _ z)) (DVs.anti f t)
  | _, _, .lsk h hn t => .lsk h (fun z => hn (f _ z)) (DVs.anti f t)
  | _, _, .lskK h t => .lskK h (DVs.anti f t)
  | _, _, .tpn h hd hn t => .tpn h hd (fun z => hn (f _ z)) (DVs.anti f t)
  | _, _, .tpnK h1 h2 h3 h t => .tpnK h1 h2 h3 h (DVs.anti f t)
  | _, _, .exc h hn => .exc h (fun z => hn (f _ z))
  | _, _, .obj h hn t => .obj h (fun z => hn (f _ z)) (DFs.anti f t)
  | _, _, .dic h hn t => .dic h (fun z => hn (f _ z)) (DKs.anti f t)
theorem DVs.anti {K : PySem.W.Frag} {H : Hp} {U U' : List Addr} (f : ∀ a ∈ U', a ∈ U) : ∀ {v : List V} {d : List D}, DVs K H U v d → DVs K H U' v d
  | _, _, .nil => .nil
  | _, _, .cons a b => .cons (DV.anti f a) (DVs.anti f b)
theorem DFs.anti {K : PySem.W.Frag} {H : Hp} {U U' : List Addr} (f : ∀ a ∈ U', a ∈ U) : ∀ {v : List (Str × V)} {d : List (Str × D)}, DFs K H U v d → DFs K H U' v d
  | _, _, .nil => .nil
  | _, _, .cons a b => .cons (DV.anti f a) (DFs.anti f b)
theorem DKs.anti {K : PySem.W.Frag} {H : Hp} {U U' : List Addr} (f : ∀ a ∈ U', a ∈ U) : ∀ {v : List (Key × V)} {d : List (Key × D)}, DKs K H U v d → DKs K H U' v d
  | _, _, .nil => .nil
  | _, _, .cons a b => .cons (DV.anti f a) (DKs.anti f b)
end

theorem DVs.length {K : PySem.W.Frag} {H : Hp} {U : List Addr} : ∀ {vs : List V} {ds : List D}, DVs K H U vs ds → vs.length = ds.length
  | _, _, .nil => rfl
  | _, _, .cons _ t => congrArg Nat.succ (DVs.length t)
theorem DVs.get {K : PySem.W.Frag} {H : Hp} {U : List Addr} : ∀ {vs : List V} {ds : List D} {i : Nat} {d : D}, DVs K H U vs ds → ds[i]? = some d → ∃ v, vs[i]? = some v ∧ DV K H U v d
  | _, _, 0, _, .cons a _, e => by simp at e; subst e; exact ⟨_, rfl, a⟩
  | _, _, i + 1, _, .cons _ t, e => by
    obtain ⟨v, h1, h2⟩ := DVs.get (i := i) t (by simpa using e)
    exact ⟨v, by simpa using h1, h2⟩
theorem DVs.get' {K : PySem.W.Frag} {H : Hp} {U : List Addr} : ∀ {vs : List V} {ds : List D} {i : Nat} {v : V}, DVs K H U vs ds → vs[i]? = some v → ∃ d, ds[i]? = some d ∧ DV K H U v d
  | _, _, 0, _, .cons a _, e => by simp at e; subst e; exact ⟨_, rfl, a⟩
  | _, _, i + 1, _, .cons _ t, e => by
    obtain ⟨v, h1, h2⟩ := DVs.get' (i := i) t (by simpa using e)
    exact ⟨v, by simpa using h1, h2⟩
theorem DVs.append {K : PySem.W.Frag} {H : Hp} {U : List Addr} : ∀ {vs ws : List V} {ds es : List D}, DVs K H U vs ds → DVs K H U ws es → DVs K H U (vs ++ ws) (ds ++ es)
  | _, _, _, _, .nil, s => s
  | _, _, _, _, .cons r t, s => .cons r (DVs.append t s)
theorem DVs.take {K : PySem.W.Frag} {H : Hp} {U : List Addr} : ∀ {vs : List V} {ds : List D} (n : Nat), DVs K H U vs ds → DVs K H U (vs.take n) (ds.take n)
  | _, _, 0, _ => .nil
  | _, _, _ + 1, .nil => .nil
  | _, _, n + 1, .cons r t => .cons r (DVs.take n t)
theorem DVs.drop {K : PySem.W.Frag} {H : Hp} {U : List Addr} : ∀ {vs : List V} {ds : List D} (n : Nat), DVs K H U vs ds → DVs K H U (vs.drop n) (ds.drop n)
  | _, _, 0, r => r
  | _, _, _ + 1, .nil => .nil
  | _, _, n + 1, .cons _ t => DVs.drop n t
theorem DVs.set {K : PySem.W.Frag} {H : Hp} {U : List Addr} {v : V} {d : D} (r : DV K H U v d) : ∀ {vs : List V} {ds : List D} (i : Nat), DVs K H U vs ds → DVs K H U (vs.set i v) (ds.set i d)
  | _, _, _, .nil => .nil
  | _, _, 0, .cons _ t => .cons r t
  | _, _, i + 1, .cons q t => .cons q (DVs.set r i t)
theorem DVs.reverse {K : PySem.W.Frag} {H : Hp} {U : List Addr} : ∀ {vs : List V} {ds : List D}, DVs K H U vs ds → DVs K H U vs.reverse ds.reverse
  | _, _, .nil => .nil
  | _, _, .cons r t => by rw [List.reverse_cons, List.reverse_cons]; exact (DVs.reverse t).append (.cons r .nil)
theorem DVs.one {K : PySem.W.Frag} {H : Hp} {U : List Addr} {v : V} {d : D} (h : DV K H U v d) : DVs K H U [v] [d] := .cons h .nil
theorem DVs.perm {K : PySem.W.Frag} {H : Hp} {U : List Addr} : ∀ {vs : List V} {ds es : List D}, ds.Perm es → DVs K H U vs ds → ∃ ws, vs.Perm ws ∧ DVs K H U ws es := by
  intro vs ds es p
  induction p generalizing vs with
  | nil => intro h; exact ⟨vs, List.Perm.refl _, h⟩
  | cons x _ ih =>
    intro h
    cases h with
    | cons a b =>
      obtain ⟨ws, p1, h1⟩ := ih b
      exact ⟨_, List.Perm.cons _ p1, .cons a h1⟩
  | swap x y l =>
    intro h
    cases h with
    | cons a b =>
      cases b with
      | cons c d => exact ⟨_, List.Perm.swap _ _ _, .cons c (.cons a d)⟩
  | trans _ _ ih1 ih2 =>
    intro h
    obtain ⟨w1, p1, h1⟩ := ih1 h
    obtain ⟨w2, p2, h2⟩ := ih2 h1
    exact ⟨w2, p1.trans p2, h2⟩
theorem DFs.look {K : PySem.W.Frag} {H : Hp} {U : List Addr} {f : Str} : ∀ {vs : List (Str × V)} {ds : List (Str × D)} {d : D}, DFs K H U vs ds → ds.lookup f = some d → ∃ v, vs.lookup f = some v ∧ DV K H U v d
  | _, _, _, .nil, e => by simp at e
  | _, _, d, .cons (x := x) a t, e => by
    rw [List.lookup_cons] at e ⊢
    cases q : (f == x) with
    | true => rw [q] at e; cases e; exact ⟨_, rfl, a⟩
    | false => rw [q] at e; exact DFs.look t e
theorem DFs.names {K : PySem.W.Frag} {H : Hp} {U : List Addr} : ∀ {vs : List (Str × V)} {ds : List (Str × D)}, DFs K H U vs ds → vs.map (·.1) = ds.map (·.1)
  | _, _, .nil => rfl
  | _, _, .cons _ t => by rw [List.map_cons, List.map_cons, DFs.names t]
theorem DFs.look_none {K : PySem.W.Frag} {H : Hp} {U : List Addr} {f : Str} : ∀ {vs : List (Str × V)} {ds : List (Str × D)}, DFs K H U vs ds → ds.lookup f = none → vs.lookup f = none
  | _, _, .nil, _ => rfl
  | _, _, .cons (x := x) a t, e => by
    rw [List.lookup_cons] at e ⊢
    cases q : (f == x) with
    | true => rw [q] at e; cases e
    | false => rw [q] at e; exact DFs.look_none t e

def MoOk (K : PySem.W.Frag) (H : Hp) (U : List Addr) (a : Addr) : MO → Prop
  | .lst ds => ∃ xs, H a = some (.lst xs) ∧ DVs K H U xs ds
  | .ins C fs => ∃ dx vs, H a = some (.ins C dx vs) ∧ DFs K H U vs fs
  | .dK kvs => ∃ vs, H a = some (.dK vs) ∧ DKs K H U vs kvs
  | .any o => H a = some o
theorem MoOk.anti {K : PySem.W.Frag} {H : Hp} {U U' : List Addr} {a : Addr} {o : MO} (f : ∀ a ∈ U', a ∈ U) (h : MoOk K H U a o) : MoOk K H U' a o := by
  cases o with
  | lst ds =>
    obtain ⟨xs, e1, e2⟩ := h
    exact ⟨xs, e1, e2.anti f⟩
  | ins C fs =>
    obtain ⟨dx, xs, e1, e2⟩ := h
    exact ⟨dx, xs, e1, e2.anti f⟩
  | dK kvs =>
    obtain ⟨xs, e1, e2⟩ := h
    exact ⟨xs, e1, e2.anti f⟩
  | any o => exact h
/-- what is reserved may change: data don't lean on it -/
theorem rd_upd {H : Hp} {U : List Addr} {D0 a : Addr} {o u : HO} (hD : D0 ∈ U) (hn : a ∉ U) (h : Rd H a u) : Rd (upd H D0 o) a u := by
  have ne : a ≠ D0 := fun z => hn (by rw [z]; exact hD)
  rcases h with h | ⟨w, h⟩
  · exact Or.inl (by rw [upd_ne ne]; exact h)
  · exact Or.inr ⟨w, by rw [upd_ne ne]; exact h⟩
theorem at_upd {H : Hp} {U : List Addr} {D0 a : Addr} {o u : HO} (hD : D0 ∈ U) (hn : a ∉ U) (h : H a = some u) : upd H D0 o a = some u := by
  rw [upd_ne (fun z => hn (by rw [z]; exact hD))]; exact h
mutual
theorem DV.frz {K : PySem.W.Frag} {H : Hp} {U : List Addr} {D0 : Addr} {o : HO} (hD : D0 ∈ U) : ∀ {v : V} {d : D}, DV K H U v d → DV K (upd H D0 o) U v d
  | _, _, .non => .non
  | _, _, .bl b => .bl b
  | _, _, .int i => .int i
  | _, _, .str x => .str x
  | _, _, .ty n => .ty n
  | _, _, .ref a => .ref a
  | _, _, .tup h hn t => .tup (rd_upd hD hn h) hn (DVs.frz hD t)
  | _, _, .tupK h t => .tupK h (DVs.frz hD t)
  | _, _, .lst h hn t => .lst (at_upd hD hn h) hn (DVs.frz hD t)
  | _, _, .lsk h hn t => .lsk (rd_upd hD hn h) hn (DVs.frz hD t)
  | _, _, .lskK h t => .lskK h (DVs.frz hD t)
  | _, _, .tpn h hd hn t => .tpn (at_upd hD hn h) hd hn (DVs.frz hD t)
  | _, _, .tpnK h1 h2 h3 h t => .tpnK h1 h2 h3 h (DVs.frz hD t)
  | _, _, .exc h hn => .exc (at_upd hD hn h) hn
  | _, _, .obj h hn t => .obj (at_upd hD hn h) hn (DFs.frz hD t)
  | _, _, .dic h hn t => .dic (at_upd hD hn h) hn (DKs.frz hD t)
theorem DVs.frz {K : PySem.W.Frag} {H : Hp} {U : List Addr} {D0 : Addr} {o : HO} (hD : D0 ∈ U) : ∀ {v : List V} {d : List D}, DVs K H U v d → DVs K (upd H D0 o) U v d
  | _, _, .nil => .nil
  | _, _, .cons a b => .cons (DV.frz hD a) (DVs.frz hD b)
theorem DFs.frz {K : PySem.W.Frag} {H : Hp} {U : List Addr} {D0 : Addr} {o : HO} (hD : D0 ∈ U) : ∀ {v : List (Str × V)} {d : List (Str × D)}, DFs K H U v d → DFs K (upd H D0 o) U v d
  | _, _, .nil => .nil
  | _, _, .cons a b => .cons (DV.frz hD a) (DFs.frz hD b)
theorem DKs.frz {K : PySem.W.Frag} {H : Hp} {U : List Addr} {D0 : Addr} {o : HO} (hD : D0 ∈ U) : ∀ {v : List (Key × V)} {d : List (Key × D)}, DKs K H U v d → DKs K (upd H D0 o) U v d
  | _, _, .nil => .nil
  | _, _, .cons a b => .cons (DV.frz hD a) (DKs.frz hD b)
end
theorem MoOk.frz {K : PySem.W.Frag} {H : Hp} {U : List Addr} {D0 a : Addr} {o : HO} {mo : MO} (hD : D0 ∈ U) (ne : a ≠ D0) (h : MoOk K H U a mo) : MoOk K (upd H D0 o) U a mo := by
  have e : upd H D0 o a = H a := upd_ne ne
  cases mo with
  | lst ds => obtain ⟨x, b1, b2⟩ := h; exact ⟨x, e.trans b1, b2.frz hD⟩
  | ins C fs => obtain ⟨x, y, b1, b2⟩ := h; exact ⟨x, y, e.trans b1, b2.frz hD⟩
  | dK kvs => obtain ⟨x, b1, b2⟩ := h; exact ⟨x, e.trans b1, b2.frz hD⟩
  | any o => exact e.trans h
structure MSt (K : PySem.W.Frag) (H : Hp) (F : List Addr) (M : Mem) : Prop where
  nd : (dom M).Nodup
  ok : ∀ p ∈ M, MoOk K H (um F M) p.1 p.2
  fr : ∀ b ∈ F, b ∉ dom M ∧ ∃ o, H b = some o
theorem MoOk.there {K : PySem.W.Frag} {H : Hp} {U : List Addr} {a : Addr} {o : MO} (h : MoOk K H U a o) : ∃ u, H a = some u := by
  cases o with
  | lst ds => obtain ⟨_, e, _⟩ := h; exact ⟨_, e⟩
  | ins C fs => obtain ⟨_, _, e, _⟩ := h; exact ⟨_, e⟩
  | dK kvs => obtain ⟨_, e, _⟩ := h; exact ⟨_, e⟩
  | any o => exact ⟨_, h⟩
theorem MSt.there {K : PySem.W.Frag} {H : Hp} {F : List Addr} {M : Mem} (m : MSt K H F M) {a : Addr} (h : a ∈ um F M) : ∃ u, H a = some u := by
  rcases List.mem_append.mp h with h | h
  · obtain ⟨p, hp, rfl⟩ := List.mem_map.mp h
    exact (m.ok p hp).there
  · exact (m.fr a h).2
theorem MSt.notin {K : PySem.W.Frag} {H : Hp} {F : List Addr} {M : Mem} (m : MSt K H F M) {a : Addr} (h : H a = none) : a ∉ um F M := fun hm => by
  obtain ⟨u, e⟩ := m.there hm
  rw [h] at e; cases e

theorem MSt.less {K : PySem.W.Frag} {H : Hp} {F F' : List Addr} {M : Mem} (m : MSt K H F M) (f : ∀ b ∈ F', b ∈ F) : MSt K H F' M :=
  ⟨m.nd, fun p hp => (m.ok p hp).anti fun a ha => (List.mem_append.mp ha).elim (fun z => List.mem_append_left _ z) fun z => List.mem_append_right _ (f a z), fun b hb => m.fr b (f b hb)⟩

structure SlOk (K : PySem.W.Frag) (H : Hp) (U : List Addr) (σ : L2.St) (ρ : Rho) : Prop where
  len : σ.length = ρ.length
  at_ : ∀ (i : Nat) (d : D), ρ[i]? = some (some d) → ∃ v, σ[i]? = some (some v) ∧ DV K H U v d
theorem SlOk.step {K : PySem.W.Frag} {H H' : Hp} {M M' : Mem} {F : List Addr} {σ : L2.St} {ρ : Rho} (h : SlOk K H (um F M) σ ρ) (s : Step H M H' M') : SlOk K H' (um F M') σ ρ :=
  ⟨h.len, fun i d e => let ⟨v, e1, e2⟩ := h.at_ i d e; ⟨v, e1, e2.step s⟩⟩
theorem SlOk.set {K : PySem.W.Frag} {H : Hp} {U : List Addr} {σ : L2.St} {ρ : Rho} (h : SlOk K H U σ ρ) {v : V} {d : D} (r : DV K H U v d) (i : Nat) : SlOk K H U (σ.set i (some v)) (ρ.set i (some d)) := by
  refine ⟨by rw [List.length_set, List.length_set]; exact h.len, fun j e he => ?_⟩
  by_cases hij : i = j
  · subst hij
    by_cases hl : i < ρ.length
    · rw [List.getElem?_set_self hl] at he
      cases he
      exact ⟨v, List.getElem?_set_self (by rw [h.len]; exact hl), r⟩
    · rw [List.getElem?_eq_none (by rw [List.length_set]; omega)] at he
      cases he
  · rw [List.getElem?_set_ne hij] at he ⊢
    exact h.at_ j e he
theorem SlOk.unset {K : PySem.W.Frag} {H : Hp} {U : List Addr} {σ : L2.St} {ρ : Rho} (h : SlOk K H U σ ρ) (i : Nat) : SlOk K H U (σ.set i none) (ρ.set i none) := by
  refine ⟨by rw [List.length_set, List.length_set]; exact h.len, fun j e he => ?_⟩
  by_cases hij : i = j
  · subst hij
    by_cases hl : i < ρ.length
    · rw [List.getElem?_set_self hl] at he; cases he
    · rw [List.getElem?_eq_none (by rw [List.length_set]; omega)] at he; cases he
  · rw [List.getElem?_set_ne hij] at he ⊢
    exact h.at_ j e he

/-- an exception that flies: its class, its own fields (none: it has no dict) -/
structure Exc where
  cls : Addr
  fs : Option (List (Str × D))
def XV (K : PySem.W.Frag) (H : Hp) (U : List Addr) (x : Exc) (cls : Value) (d : Option Addr) : Prop :=
  cls = .ref x.cls ∧ (match x.fs with
    | none => d = none
    | some fs => ∃ a vs, d = some a ∧ H a = some (.xd vs) ∧ a ∉ U ∧ DFs K H U vs fs)
theorem XV.step {K : PySem.W.Frag} {H H' : Hp} {M M' : Mem} {F : List Addr} {x : Exc} {cls : Value} {d : Option Addr} (h : XV K H (um F M) x cls d) (s : Step H M H' M') : XV K H' (um F M') x cls d := by
  obtain ⟨h1, h2⟩ := h
  refine ⟨h1, ?_⟩
  cases q : x.fs with
  | none => rw [q] at h2; exact h2
  | some fs =>
    rw [q] at h2
    obtain ⟨a, vs, e1, e2, e3, e4⟩ := h2
    exact ⟨a, vs, e1, s.keepU e2 e3, s.outU FrGo.refl e2 e3, e4.step s⟩

/-! ### the abstract readings -/
abbrev AK := D → Mem → Prop
abbrev XKA := Exc → Mem → Prop
/-- an expression: slots, memory, what is wanted of its value, of an exception -/
abbrev AE := Rho → Mem → AK → XKA → Prop
abbrev AA := Rho → Mem → (List D → Mem → Prop) → XKA → Prop
abbrev AT := Rho → Mem → (Bool → Mem → Prop) → XKA → Prop
structure KE where
  nx : Rho → Mem → Prop
  rt : D → Mem → Prop
  bk : Rho → Mem → Prop
  ct : Rho → Mem → Prop
  ex : Exc → Rho → Mem → Prop
abbrev AS := Rho → Mem → KE → Prop

/-- the code's run, from slots and heap, for a wish -/
def EW (X : Cx) (e : Expr) : TE := fun σ H Q => ∀ (pins : List (Addr × Obj)) (s : Shared), Inv X pins σ H s → wpAny (model X.prog X.w) X.A (eval e X.env) (EP X pins σ Q) X.xe s
theorem pe_ew {X : Cx} {e : Expr} : PE X e (EW X e) := ⟨fun pins s _ _ _ I h => h pins s I⟩
theorem _root_.L2.PE.ew {X : Cx} {e : Expr} {t : TE} (h : PE X e t) {σ : L2.St} {H : Hp} {Q : VK} (q : t σ H Q) : EW X e σ H Q := fun pins s I => h.run pins s σ H Q I q
def TW (X : Cx) (e : Expr) : TT := fun σ H Q => ∀ (pins : List (Addr × Obj)) (s : Shared), Inv X pins σ H s → wpAny (model X.prog X.w) X.A (isTrue e X.env (eval e X.env)) (TP X pins σ Q) X.xe s
theorem pt_tw {X : Cx} {e : Expr} : PT X e (TW X e) := ⟨fun pins s _ _ _ I h => h pins s I⟩
theorem _root_.L2.PT.tw {X : Cx} {e : Expr} {t : TT} (h : PT X e t) {σ : L2.St} {H : Hp} {Q : Bool → Hp → Prop} (q : t σ H Q) : TW X e σ H Q := fun pins s I => h.run pins s σ H Q I q
def WW (X : Cx) (e : Expr) : TT := fun σ H Q => ∀ (whole : Sem Value) (pins : List (Addr × Obj)) (s : Shared), Inv X pins σ H s → wpAny (model X.prog X.w) X.A (isTrue e X.env whole) (TP X pins σ Q) X.xe s
theorem pw_ww {X : Cx} {e : Expr} : PW X e (WW X e) := ⟨fun wh pins s _ _ _ I h => h wh pins s I⟩
def GW (X : Cx) (es : List Expr) : TA := fun σ H Q => ∀ (pos : Pos) (pins : List (Addr × Obj)) (s : Shared), Inv X pins σ H s → wpAny (model X.prog X.w) X.A (spliced (backTo pos (starEach es X.env))) (AP X pins σ Q) X.xe s
theorem pa_gw {X : Cx} {es : List Expr} : PA X es (GW X es) := ⟨fun pos pins s _ _ _ I h => h pos pins s I⟩
def SW (X : Cx) (st : Stmt) : TS := fun D σ H => ∀ (pins : List (Addr × Obj)) (s : Shared), Inv X pins σ H s → wpAny (model X.prog X.w) X.A (exec st X.env) (SP X pins D) X.xe s
theorem ps_sw {X : Cx} {st : Stmt} : PS X st (SW X st) := ⟨fun pins s _ _ _ I h => h pins s I⟩
def BW (X : Cx) (st : List Stmt) : TS := fun D σ H => ∀ (pins : List (Addr × Obj)) (s : Shared), Inv X pins σ H s → wpAny (model X.prog X.w) X.A (execs st X.env) (SP X pins D) X.xe s
theorem pss_bw {X : Cx} {st : List Stmt} : PSs X st (BW X st) := ⟨fun pins s _ _ _ I h => h pins s I⟩

/-- the state, abstract -/
structure Sta (X : Cx) (H : Hp) (F : List Addr) (M : Mem) (σ : L2.St) (ρ : Rho) : Prop where
  sl : SlOk X.K H (um F M) σ ρ
  ms : MSt X.K H F M

/-- how a wish about exceptions is linked -/
def LX (X : Cx) (H : Hp) (F : List Addr) (M : Mem) (EX : XKA) (G : XK) : Prop := ∀ x M' cls d H', Step H M H' M' → MSt X.K H' F M' → XV X.K H' (um F M') x cls d → EX x M' → G cls d H'
theorem LX.step {X : Cx} {H H1 : Hp} {F : List Addr} {M M1 : Mem} {EX : XKA} {G : XK} (h : LX X H F M EX G) (s : Step H M H1 M1) : LX X H1 F M1 EX G := fun x M' cls d H' s' m xv e => h x M' cls d H' (s.trans s') m xv e

/-- what an expression means -/
structure DenE (X : Cx) (e : Expr) (t : AE) : Prop where
  run : ∀ (F : List Addr) (ρ : Rho) (M : Mem) (P : AK) (EX : XKA) (W : WX) (σ : L2.St) (H : Hp) (Q : VK), Sta X H F M σ ρ → Takes X W → t ρ M P EX →
    (∀ v d M' H', Step H M H' M' → MSt X.K H' F M' → DV X.K H' (um F M') v d → P d M' → Q v H') → LX X H F M EX (fun cls d H' => W cls d σ H') → EW X e σ H Q
structure DenA (X : Cx) (es : List Expr) (t : AA) : Prop where
  run : ∀ (F : List Addr) (ρ : Rho) (M : Mem) (P : List D → Mem → Prop) (EX : XKA) (W : WX) (σ : L2.St) (H : Hp) (Q : List V → Hp → Prop), Sta X H F M σ ρ → Takes X W → t ρ M P EX →
    (∀ v d M' H', Step H M H' M' → MSt X.K H' F M' → DVs X.K H' (um F M') v d → P d M' → Q v H') → LX X H F M EX (fun cls d H' => W cls d σ H') → GW X es σ H Q
structure DenT (X : Cx) (e : Expr) (t : AT) : Prop where
  run : ∀ (F : List Addr) (ρ : Rho) (M : Mem) (P : Bool → Mem → Prop) (EX : XKA) (W : WX) (σ : L2.St) (H : Hp) (Q : Bool → Hp → Prop), Sta X H F M σ ρ → Takes X W → t ρ M P EX →
    (∀ b M' H', Step H M H' M' → MSt X.K H' F M' → P b M' → Q b H') → LX X H F M EX (fun cls d H' => W cls d σ H') → TW X e σ H Q
/-- a chain of and, or as a test -/
structure DenW (X : Cx) (e : Expr) (t : AT) : Prop where
  run : ∀ (F : List Addr) (ρ : Rho) (M : Mem) (P : Bool → Mem → Prop) (EX : XKA) (W : WX) (σ : L2.St) (H : Hp) (Q : Bool → Hp → Prop), Sta X H F M σ ρ → Takes X W → t ρ M P EX →
    (∀ b M' H', Step H M H' M' → MSt X.K H' F M' → P b M' → Q b H') → LX X H F M EX (fun cls d H' => W cls d σ H') → WW X e σ H Q

/-- how the wishes behind a statement are linked -/
structure Link (X : Cx) (W : WX) (F : List Addr) (H : Hp) (M : Mem) (k : KE) (D : Ends) : Prop where
  nx : ∀ ρ' M' σ' H', Step H M H' M' → Sta X H' F M' σ' ρ' → k.nx ρ' M' → D.nx σ' H'
  rt : ∀ v d M' H', Step H M H' M' → MSt X.K H' F M' → DV X.K H' (um F M') v d → k.rt d M' → D.rt v H'
  bk : ∀ ρ' M' σ' H', Step H M H' M' → Sta X H' F M' σ' ρ' → k.bk ρ' M' → D.bk σ' H'
  ct : ∀ ρ' M' σ' H', Step H M H' M' → Sta X H' F M' σ' ρ' → k.ct ρ' M' → D.ct σ' H'
  ex : ∀ x ρ' M' cls d σ' H', Step H M H' M' → Sta X H' F M' σ' ρ' → XV X.K H' (um F M') x cls d → k.ex x ρ' M' → W cls d σ' H'
theorem Link.step {X : Cx} {W : WX} {F : List Addr} {H H1 : Hp} {M M1 : Mem} {k : KE} {D : Ends} (l : Link X W F H M k D) (s : Step H M H1 M1) : Link X W F H1 M1 k D :=
  ⟨fun a b c d e => l.nx a b c d (s.trans e), fun a b c d e => l.rt a b c d (s.trans e), fun a b c d e => l.bk a b c d (s.trans e), fun a b c d e => l.ct a b c d (s.trans e), fun a b c d f g h e => l.ex a b c d f g h (s.trans e)⟩
theorem Link.lx {X : Cx} {W : WX} {F : List Addr} {H : Hp} {M : Mem} {k : KE} {D : Ends} (l : Link X W F H M k D) {σ : L2.St} {ρ : Rho} (h : Sta X H F M σ ρ) : LX X H F M (fun x M' => k.ex x ρ M') (fun cls d H' => W cls d σ H') :=
  fun x M' cls d H' s m xv e => l.ex x ρ M' cls d σ H' s ⟨h.sl.step s, m⟩ xv e
structure DenS (X : Cx) (st : Stmt) (t : AS) : Prop where
  run : ∀ (F : List Addr) (ρ : Rho) (M : Mem) (k : KE) (W : WX) (σ : L2.St) (H : Hp) (D : Ends), Sta X H F M σ ρ → Takes X W → t ρ M k → Link X W F H M k D → SW X st D σ H
structure DenB (X : Cx) (st : List Stmt) (t : AS) : Prop where
  run : ∀ (F : List Addr) (ρ : Rho) (M : Mem) (k : KE) (W : WX) (σ : L2.St) (H : Hp) (D : Ends), Sta X H F M σ ρ → Takes X W → t ρ M k → Link X W F H M k D → BW X st D σ H
theorem Sta.step {X : Cx} {H H' : Hp} {F : List Addr} {M M' : Mem} {σ : L2.St} {ρ : Rho} (h : Sta X H F M σ ρ) (s : Step H M H' M') (m : MSt X.K H' F M') : Sta X H' F M' σ ρ := ⟨h.sl.step s, m⟩
end Ab
set_option maxRecDepth 100000
set_option maxHeartbeats 2000000
/-! Ab2: expressions: names, constants, operators, tests, displays, items. -/
namespace Ab
open PySem L2

section
variable {X : Cx} {a b c e o : Expr} {ta tb tc te : AE} {pos : Pos}

/-! ### names and constants -/
def gS : Rho → Nat → Option D
  | [], _ => none
  | a :: _, 0 => a
  | _ :: r, n + 1 => gS r n
theorem gS_get : ∀ {ρ : Rho} {i : Nat} {d : D}, gS ρ i = some d → ρ[i]? = some (some d)
  | [], _, _, h => by cases h
  | a :: _, 0, _, h => by
    have h' : a = some _ := h
    rw [h']; rfl
  | _ :: r, n + 1, d, h => by
    have h' : gS r n = some d := h
    rw [List.getElem?_cons_succ]; exact gS_get h'
def aVar (i : Nat) : AE := fun ρ M P _ => ∃ d, gS ρ i = some d ∧ P d M
theorem aVar_r {i : Nat} {ρ : Rho} {M : Mem} {P : AK} {EX : XKA} {d : D} (h : gS ρ i = some d) (q : P d M) : aVar i ρ M P EX := ⟨d, h, q⟩
def aC (d : D) : AE := fun _ M P _ => P d M
theorem aC_r {ρ : Rho} {M : Mem} {P : AK} {EX : XKA} {d : D} (q : P d M) : aC d ρ M P EX := q
/-- data without objects -/
def flatD : D → Option V
  | .non => some .non
  | .bl b => some (.bl b)
  | .int i => some (.int i)
  | .str s => some (.str s)
  | .ty n => some (.ty n)
  | .ref a => some (.ref a)
  | _ => none
theorem flat_dv {K : PySem.W.Frag} {H : Hp} {U : List Addr} {d : D} {v : V} (h : flatD d = some v) : DV K H U v d := by
  cases d <;> simp [flatD] at h <;> subst h <;> constructor
theorem de_var (i : Nat) {x : Str} (hN : X.N[i]? = some x := by rfl) (hv : Vis X.env.scope x := by first | exact Or.inl rfl | exact Or.inr (Or.inl rfl) | exact Or.inr (Or.inr rfl)) (hd : (x == ("__debug__" : Str)) = false := by decide) (hcd : (x == ("__classdict__" : Str)) = false := by decide) : DenE X (.Name x pos) (aVar i) :=
  ⟨fun F ρ M P EX W σ H Q S tk h hP hX => by
    obtain ⟨d, e, h⟩ := h
    obtain ⟨v, e1, e2⟩ := S.sl.at_ i d (gS_get e)
    exact (pe_var hN hv hd hcd).ew ⟨v, e1, hP v d M H (Step.refl H M) S.ms e2 h⟩⟩
theorem de_c {d : D} {v : V} (h : PE X e (tC v)) (hd : flatD d = some v := by rfl) : DenE X e (aC d) :=
  ⟨fun F ρ M P EX W σ H Q S tk q hP hX => h.ew (hP v d M H (Step.refl H M) S.ms (flat_dv hd) q)⟩
theorem de_int {i : Int} {j : Nat} : DenE X (.Constant (.int i) j pos) (aC (.int i)) := de_c pe_int
theorem de_bl {b : Bool} {j : Nat} : DenE X (.Constant (.bool b) j pos) (aC (.bl b)) := de_c pe_bl
theorem de_non {j : Nat} : DenE X (.Constant .none j pos) (aC .non) := de_c pe_non
theorem de_str {x : Str} {j : Nat} : DenE X (.Constant (.str x) j pos) (aC (.str x)) := de_c pe_str
/-- a constant of the module -/
theorem de_glob {x : Str} {d : D} {v : V} {u : Value} (hm : X.mg x = some u) (r : RelV v u) (hg : Gl X x := by rfl) (hdv : flatD d = some v := by rfl) (hd : (x == ("__debug__" : Str)) = false := by decide) : DenE X (.Name x pos) (aC d) := de_c (pe_glob hg hm r hd) hdv
theorem de_bltn {x : Str} {d : D} {v : V} {u : Value} (hm : X.mg x = none) (hv : bootBuiltins x = some u) (r : RelV v u) (hg : Gl X x := by rfl) (hdv : flatD d = some v := by rfl) (hn : x ≠ "__name__" := by decide) (hd : (x == ("__debug__" : Str)) = false := by decide) : DenE X (.Name x pos) (aC d) := de_c (pe_bltn hg hm hv r hn hd) hdv

/-! ### two in a row -/
abbrev A2 := D → D → Mem → AK → Prop
/-- an abstract operation tells what a concrete one does -/
def OkA2 (X : Cx) (f : Value → Value → Sem Value) (r : A2) : Prop := ∀ (F : List Addr) (x y : D) (v w : V) (M : Mem) (P : AK) (H : Hp) (Q : VK), MSt X.K H F M → DV X.K H (um F M) v x → DV X.K H (um F M) w y → r x y M P →
  (∀ z d M' H', Step H M H' M' → MSt X.K H' F M' → DV X.K H' (um F M') z d → P d M' → Q z H') → ∃ rr, OpR X f rr ∧ rr v w H Q
def anyR (X : Cx) (f : Value → Value → Sem Value) : R2 := fun x y H Q => ∃ rr, OpR X f rr ∧ rr x y H Q
theorem op_any {f : Value → Value → Sem Value} : OpR X f (anyR X f) := fun pins s σ H x y v u Q I r1 r2 ⟨_, h1, h2⟩ => h1 pins s σ H x y v u Q I r1 r2 h2
def aBin (r : A2) (ta tb : AE) : AE := fun ρ M P EX => ta ρ M (fun x M1 => tb ρ M1 (fun y M2 => r x y M2 P) EX) EX
theorem bin_ok {F : List Addr} {f : Value → Value → Sem Value} {r : A2} (ha : DenE X a ta) (hb : DenE X b tb) (hr : OkA2 X f r) {ρ : Rho} {M : Mem} {P : AK} {EX : XKA} {W : WX} {σ : L2.St} {H : Hp} {Q : VK} (S : Sta X H F M σ ρ) (tk : Takes X W) (h : aBin r ta tb ρ M P EX)
    (hP : ∀ v d M' H', Step H M H' M' → MSt X.K H' F M' → DV X.K H' (um F M') v d → P d M' → Q v H') (hX : LX X H F M EX (fun cls d H' => W cls d σ H')) : tOp (anyR X f) (EW X a) (EW X b) σ H Q := by
  refine ha.run F ρ M _ EX W σ H _ S tk h (fun v x M1 H1 s1 m1 dv h1 => ?_) hX
  refine hb.run F ρ M1 _ EX W σ H1 _ (S.step s1 m1) tk h1 (fun w y M2 H2 s2 m2 dw h2 => ?_) (hX.step s1)
  exact hr F x y v w M2 P H2 Q m2 (dv.step s2) dw h2 fun z d M3 H3 s3 m3 dz p => hP z d M3 H3 ((s1.trans s2).trans s3) m3 dz p
theorem de_bin {op : Operator} {r : A2} (hr : OkA2 X (binaryOp op) r) (ha : DenE X a ta) (hb : DenE X b tb) : DenE X (.BinOp a op b pos) (aBin r ta tb) :=
  ⟨fun F ρ M P EX W σ H Q S tk h hP hX => (pe_op op_any pe_ew pe_ew).ew (bin_ok ha hb hr S tk h hP hX)⟩
theorem de_cmp {op : CmpOp} {r : A2} (hr : OkA2 X (compareOp op) r) (ha : DenE X a ta) (hb : DenE X b tb) (hm : behindInMarks op b = false := by first | exact nomark _ | with_unfolding_all rfl) : DenE X (.Compare a [op] [b] pos) (aBin r ta tb) :=
  ⟨fun F ρ M P EX W σ H Q S tk h hP hX => (pe_cmpR op_any pe_ew pe_ew hm).ew (bin_ok ha hb hr S tk h hP hX)⟩
/-- a reading whose value is a bool, as a test -/
def aB (t : AE) : AT := fun ρ M P EX => t ρ M (fun d M' => ∃ k, d = .bl k ∧ P k M') EX
theorem aB_r {k : Bool} {M : Mem} {P : Bool → Mem → Prop} (q : P k M) : ∃ k', D.bl k = .bl k' ∧ P k' M := ⟨k, rfl, q⟩
theorem DV.bool {K : PySem.W.Frag} {H : Hp} {U : List Addr} {v : V} {k : Bool} (h : DV K H U v (.bl k)) : v = .bl k := by cases h; rfl
theorem DV.int' {K : PySem.W.Frag} {H : Hp} {U : List Addr} {v : V} {k : Int} (h : DV K H U v (.int k)) : v = .int k := by cases h; rfl
theorem DV.str' {K : PySem.W.Frag} {H : Hp} {U : List Addr} {v : V} {k : Str} (h : DV K H U v (.str k)) : v = .str k := by cases h; rfl
theorem DV.non' {K : PySem.W.Frag} {H : Hp} {U : List Addr} {v : V} (h : DV K H U v .non) : v = .non := by cases h; rfl
theorem dt_cmp {op : CmpOp} {r : A2} (hr : OkA2 X (compareOp op) r) (ha : DenE X a ta) (hb : DenE X b tb) (hm : behindInMarks op b = false := by first | exact nomark _ | with_unfolding_all rfl) : DenT X (.Compare a [op] [b] pos) (aB (aBin r ta tb)) :=
  ⟨fun F ρ M P EX W σ H Q S tk h hP hX => (pt_cmpR op_any pe_ew pe_ew hm).tw (bin_ok ha hb hr S tk h (fun v d M' H' s m dv q => by
    obtain ⟨b', rfl, q⟩ := q
    exact ⟨b', dv.bool, hP b' M' H' s m q⟩) hX)⟩
/-- an expression whose value is a bool, as a test -/
theorem dt_val (h : DenE X e te) (he : ∀ whole, isTrue e X.env whole = (do let v ← whole; standAt e.pos; holding [v] (truthy v)) := by intro _; rfl) : DenT X e (aB te) :=
  ⟨fun F ρ M P EX W σ H Q S tk q hP hX => (pt_val pe_ew he).tw (h.run F ρ M _ EX W σ H _ S tk q (fun v d M' H' s m dv p => by
    obtain ⟨b', rfl, p⟩ := p
    exact ⟨b', dv.bool, hP b' M' H' s m p⟩) hX)⟩

/-! ### and, or, not, if -/
variable {tA tB tC' : AT} {rest : List Expr}
def aAnd (t u : AT) : AT := fun ρ M P EX => t ρ M (fun c M1 => (c = true → u ρ M1 P EX) ∧ (c = false → P false M1)) EX
def aOr (t u : AT) : AT := fun ρ M P EX => t ρ M (fun c M1 => (c = true → P true M1) ∧ (c = false → u ρ M1 P EX)) EX
def aNot (t : AT) : AT := fun ρ M P EX => t ρ M (fun c M1 => P (!c) M1) EX
theorem dw_and1 (ha : DenT X a tA) : DenW X (.BoolOp .And [a] pos) tA :=
  ⟨fun F ρ M P EX W σ H Q S tk h hP hX => fun wh pins s I => (pw_and1 (pt_tw (X := X))).run wh pins s σ H Q I (ha.run F ρ M P EX W σ H Q S tk h hP hX)⟩
theorem dw_or1 (ha : DenT X a tA) : DenW X (.BoolOp .Or [a] pos) tA :=
  ⟨fun F ρ M P EX W σ H Q S tk h hP hX => fun wh pins s I => (pw_or1 (pt_tw (X := X))).run wh pins s σ H Q I (ha.run F ρ M P EX W σ H Q S tk h hP hX)⟩
theorem dw_and (ha : DenT X a tA) (hb : DenW X (.BoolOp .And (b :: rest) pos) tB) : DenW X (.BoolOp .And (a :: b :: rest) pos) (aAnd tA tB) :=
  ⟨fun F ρ M P EX W σ H Q S tk h hP hX => fun wh pins s I => (pw_and (pt_tw (X := X)) (pw_ww (X := X))).run wh pins s σ H Q I
    (ha.run F ρ M _ EX W σ H _ S tk h (fun c M1 H1 s1 m1 q => by
      cases c with
      | true =>
        show WW X _ σ H1 Q
        exact hb.run F ρ M1 P EX W σ H1 Q (S.step s1 m1) tk (q.1 rfl) (fun b' M2 H2 s2 m2 p => hP b' M2 H2 (s1.trans s2) m2 p) (hX.step s1)
      | false =>
        show Q false H1
        exact hP false M1 H1 s1 m1 (q.2 rfl)) hX)⟩
theorem dw_or (ha : DenT X a tA) (hb : DenW X (.BoolOp .Or (b :: rest) pos) tB) : DenW X (.BoolOp .Or (a :: b :: rest) pos) (aOr tA tB) :=
  ⟨fun F ρ M P EX W σ H Q S tk h hP hX => fun wh pins s I => (pw_or (pt_tw (X := X)) (pw_ww (X := X))).run wh pins s σ H Q I
    (ha.run F ρ M _ EX W σ H _ S tk h (fun c M1 H1 s1 m1 q => by
      cases c with
      | false =>
        show WW X _ σ H1 Q
        exact hb.run F ρ M1 P EX W σ H1 Q (S.step s1 m1) tk (q.2 rfl) (fun b' M2 H2 s2 m2 p => hP b' M2 H2 (s1.trans s2) m2 p) (hX.step s1)
      | true =>
        show Q true H1
        exact hP true M1 H1 s1 m1 (q.1 rfl)) hX)⟩
theorem DenW.t (h : DenW X e tA) : DenT X e tA := ⟨fun F ρ M P EX W σ H Q S tk q hP hX => fun pins s I => h.run F ρ M P EX W σ H Q S tk q hP hX _ pins s I⟩
theorem dt_not (ha : DenT X a tA) : DenT X (.UnaryOp .Not a pos) (aNot tA) :=
  ⟨fun F ρ M P EX W σ H Q S tk h hP hX => (pt_not (pt_tw (X := X))).tw (ha.run F ρ M _ EX W σ H _ S tk h (fun c M1 H1 s1 m1 q => hP (!c) M1 H1 s1 m1 q) hX)⟩
/-- .. as values (bools) -/
def aAndV (t u : AE) : AE := fun ρ M P EX => t ρ M (fun x M1 => ∃ c, x = .bl c ∧ (c = true → u ρ M1 P EX) ∧ (c = false → P (.bl false) M1)) EX
def aOrV (t u : AE) : AE := fun ρ M P EX => t ρ M (fun x M1 => ∃ c, x = .bl c ∧ (c = true → P (.bl true) M1) ∧ (c = false → u ρ M1 P EX)) EX
def aNotV (t : AE) : AE := fun ρ M P EX => t ρ M (fun x M1 => ∃ c, x = .bl c ∧ P (.bl (!c)) M1) EX
theorem de_one {op : BoolOp} (h : DenE X a ta) : DenE X (.BoolOp op [a] pos) ta := ⟨fun F ρ M P EX W σ H Q S tk q hP hX => (pe_one pe_ew).ew (h.run F ρ M P EX W σ H Q S tk q hP hX)⟩
theorem de_and (ha : DenE X a ta) (hb : DenE X (.BoolOp .And (b :: rest) pos) tb) : DenE X (.BoolOp .And (a :: b :: rest) pos) (aAndV ta tb) :=
  ⟨fun F ρ M P EX W σ H Q S tk h hP hX => (pe_and (pe_ew (X := X)) (pe_ew (X := X))).ew
    (ha.run F ρ M _ EX W σ H _ S tk h (fun v x M1 H1 s1 m1 dv q => by
      obtain ⟨c, rfl, q⟩ := q
      refine ⟨c, dv.bool, ?_⟩
      cases c with
      | true =>
        show EW X _ σ H1 Q
        exact hb.run F ρ M1 P EX W σ H1 Q (S.step s1 m1) tk (q.1 rfl) (fun z d M2 H2 s2 m2 dz p => hP z d M2 H2 (s1.trans s2) m2 dz p) (hX.step s1)
      | false =>
        show Q (.bl false) H1
        exact hP _ _ M1 H1 s1 m1 (.bl false) (q.2 rfl)) hX)⟩
theorem de_or (ha : DenE X a ta) (hb : DenE X (.BoolOp .Or (b :: rest) pos) tb) : DenE X (.BoolOp .Or (a :: b :: rest) pos) (aOrV ta tb) :=
  ⟨fun F ρ M P EX W σ H Q S tk h hP hX => (pe_or (pe_ew (X := X)) (pe_ew (X := X))).ew
    (ha.run F ρ M _ EX W σ H _ S tk h (fun v x M1 H1 s1 m1 dv q => by
      obtain ⟨c, rfl, q⟩ := q
      refine ⟨c, dv.bool, ?_⟩
      cases c with
      | false =>
        show EW X _ σ H1 Q
        exact hb.run F ρ M1 P EX W σ H1 Q (S.step s1 m1) tk (q.2 rfl) (fun z d M2 H2 s2 m2 dz p => hP z d M2 H2 (s1.trans s2) m2 dz p) (hX.step s1)
      | true =>
        show Q (.bl true) H1
        exact hP _ _ M1 H1 s1 m1 (.bl true) (q.1 rfl)) hX)⟩
theorem de_not (ha : DenE X a ta) : DenE X (.UnaryOp .Not a pos) (aNotV ta) :=
  ⟨fun F ρ M P EX W σ H Q S tk h hP hX => (pe_not (pe_ew (X := X))).ew
    (ha.run F ρ M _ EX W σ H _ S tk h (fun v x M1 H1 s1 m1 dv q => by
      obtain ⟨c, rfl, q⟩ := q
      exact ⟨c, dv.bool, hP _ _ M1 H1 s1 m1 (.bl (!c)) q⟩) hX)⟩
def aIf (t : AT) (ta tb : AE) : AE := fun ρ M P EX => t ρ M (fun c M1 => (c = true → ta ρ M1 P EX) ∧ (c = false → tb ρ M1 P EX)) EX
theorem de_if (hc : DenT X c tA) (ha : DenE X a ta) (hb : DenE X b tb) : DenE X (.IfExp c a b pos) (aIf tA ta tb) :=
  ⟨fun F ρ M P EX W σ H Q S tk h hP hX => (pe_ifExp (pt_tw (X := X)) (pe_ew (X := X)) (pe_ew (X := X))).ew
    (hc.run F ρ M _ EX W σ H _ S tk h (fun c M1 H1 s1 m1 q => by
      cases c with
      | true =>
        show EW X _ σ H1 Q
        exact ha.run F ρ M1 P EX W σ H1 Q (S.step s1 m1) tk (q.1 rfl) (fun z d M2 H2 s2 m2 dz p => hP z d M2 H2 (s1.trans s2) m2 dz p) (hX.step s1)
      | false =>
        show EW X _ σ H1 Q
        exact hb.run F ρ M1 P EX W σ H1 Q (S.step s1 m1) tk (q.2 rfl) (fun z d M2 H2 s2 m2 dz p => hP z d M2 H2 (s1.trans s2) m2 dz p) (hX.step s1)) hX)⟩
/-- code that is never come to -/
def aNever : AE := fun _ _ _ _ => False
theorem de_never : DenE X e aNever := ⟨fun _ _ _ _ _ _ _ _ _ _ _ h _ _ => h.elim⟩
def aNeverT : AT := fun _ _ _ _ => False
theorem dt_never : DenT X e aNeverT := ⟨fun _ _ _ _ _ _ _ _ _ _ _ h _ _ => h.elim⟩

/-! ### chains -/
def aChain (r r' : A2) (ta tb tc : AE) : AE := fun ρ M P EX => ta ρ M (fun x M1 => tb ρ M1 (fun y M2 => r x y M2 fun z M3 => ∃ k, z = .bl k ∧ (k = true → tc ρ M3 (fun w M4 => r' y w M4 P) EX) ∧ (k = false → P (.bl false) M3)) EX) EX
theorem chain_ok {F : List Addr} {f f' : Value → Value → Sem Value} {r r' : A2} (ha : DenE X a ta) (hb : DenE X b tb) (hc : DenE X c tc) (hr : OkA2 X f r) (hr' : OkA2 X f' r') {ρ : Rho} {M : Mem} {P : AK} {EX : XKA} {W : WX} {σ : L2.St} {H : Hp} {Q : VK} (S : Sta X H F M σ ρ) (tk : Takes X W)
    (h : aChain r r' ta tb tc ρ M P EX) (hP : ∀ v d M' H', Step H M H' M' → MSt X.K H' F M' → DV X.K H' (um F M') v d → P d M' → Q v H') (hX : LX X H F M EX (fun cls d H' => W cls d σ H')) : tChain (anyR X f) (anyR X f') (EW X a) (EW X b) (EW X c) σ H Q := by
  refine ha.run F ρ M _ EX W σ H _ S tk h (fun v x M1 H1 s1 m1 dv h1 => ?_) hX
  refine hb.run F ρ M1 _ EX W σ H1 _ (S.step s1 m1) tk h1 (fun w y M2 H2 s2 m2 dw h2 => ?_) (hX.step s1)
  refine hr F x y v w M2 _ H2 _ m2 (dv.step s2) dw h2 fun z d M3 H3 s3 m3 dz p => ?_
  obtain ⟨k, rfl, p⟩ := p
  refine ⟨k, dz.bool, ?_⟩
  have s13 := (s1.trans s2).trans s3
  cases k with
  | false =>
    show Q (.bl false) H3
    exact hP _ _ M3 H3 s13 m3 (.bl false) (p.2 rfl)
  | true =>
    show EW X c σ H3 _
    refine hc.run F ρ M3 _ EX W σ H3 _ (S.step s13 m3) tk (p.1 rfl) (fun w' y' M4 H4 s4 m4 dw' h4 => ?_) (hX.step s13)
    exact hr' F y y' w w' M4 P H4 Q m4 ((dw.step s3).step s4) dw' h4 fun z d M5 H5 s5 m5 dz p => hP z d M5 H5 ((s13.trans s4).trans s5) m5 dz p
theorem de_chain {op op' : CmpOp} {r r' : A2} (hr : OkA2 X (compareOp op) r) (hr' : OkA2 X (compareOp op') r') (ha : DenE X a ta) (hb : DenE X b tb) (hc : DenE X c tc) (hm : lastMarks [op, op'] [b, c] = false := by with_unfolding_all rfl) :
    DenE X (.Compare a [op, op'] [b, c] pos) (aChain r r' ta tb tc) :=
  ⟨fun F ρ M P EX W σ H Q S tk h hP hX => (pe_chain op_any op_any pe_ew pe_ew pe_ew hm).ew (chain_ok ha hb hc hr hr' S tk h hP hX)⟩
theorem dt_chain {op op' : CmpOp} {r r' : A2} (hr : OkA2 X (compareOp op) r) (hr' : OkA2 X (compareOp op') r') (ha : DenE X a ta) (hb : DenE X b tb) (hc : DenE X c tc) (hm : lastMarks [op, op'] [b, c] = false := by with_unfolding_all rfl) :
    DenT X (.Compare a [op, op'] [b, c] pos) (aB (aChain r r' ta tb tc)) :=
  ⟨fun F ρ M P EX W σ H Q S tk h hP hX => (pt_chain op_any op_any pe_ew pe_ew pe_ew hm).tw (chain_ok ha hb hc hr hr' S tk h (fun v d M' H' s m dv q => by
    obtain ⟨b', rfl, q⟩ := q
    exact ⟨b', dv.bool, hP b' M' H' s m q⟩) hX)⟩

/-! ### one-place operations -/
def aUn (r : D → Mem → AK → Prop) (ta : AE) : AE := fun ρ M P EX => ta ρ M (fun x M1 => r x M1 P) EX
def OkA1 (X : Cx) (f : Value → Sem Value) (r : D → Mem → AK → Prop) : Prop := ∀ (F : List Addr) (x : D) (v : V) (M : Mem) (P : AK) (H : Hp) (Q : VK), MSt X.K H F M → DV X.K H (um F M) v x → r x M P →
  (∀ z d M' H', Step H M H' M' → MSt X.K H' F M' → DV X.K H' (um F M') z d → P d M' → Q z H') → ∃ rr, UnR X f rr ∧ rr v H Q
def anyU (X : Cx) (f : Value → Sem Value) : V → Hp → VK → Prop := fun x H Q => ∃ rr, UnR X f rr ∧ rr x H Q
theorem un_any {f : Value → Sem Value} : UnR X f (anyU X f) := fun pins s σ H x v Q I r1 ⟨_, h1, h2⟩ => h1 pins s σ H x v Q I r1 h2
theorem de_un {op : UnaryOp} {r : D → Mem → AK → Prop} (hr : OkA1 X (unaryOp op) r) (ha : DenE X a ta) : DenE X (.UnaryOp op a pos) (aUn r ta) :=
  ⟨fun F ρ M P EX W σ H Q S tk h hP hX => (pe_un un_any (pe_ew (X := X))).ew (ha.run F ρ M _ EX W σ H _ S tk h (fun v x M1 H1 s1 m1 dv q =>
    hr F x v M1 P H1 Q m1 dv q fun z d M2 H2 s2 m2 dz p => hP z d M2 H2 (s1.trans s2) m2 dz p) hX)⟩
inductive NegA : D → Mem → AK → Prop
  | int {i : Int} {M : Mem} {P : AK} : P (.int (-i)) M → NegA (.int i) M P
theorem ok_neg : OkA1 X (unaryOp .USub) NegA := fun F x v M P H Q m dv h hP => by
  cases h with
  | int q =>
    cases dv
    exact ⟨_, un_neg, _, rfl, hP _ _ M H (Step.refl H M) m (.int _) q⟩

/-! ### arguments, displays -/
variable {es : List Expr} {t : AA}
def aNil : AA := fun _ M P _ => P [] M
def aCons (ta : AE) (tr : AA) : AA := fun ρ M P EX => ta ρ M (fun x M1 => tr ρ M1 (fun xs M2 => P (x :: xs) M2) EX) EX
theorem da_nil : DenA X [] aNil := ⟨fun F ρ M P EX W σ H Q S tk h hP hX => fun pos pins s I => pa_nil.run pos pins s σ H Q I (hP [] [] M H (Step.refl H M) S.ms .nil h)⟩
theorem da_cons (ha : DenE X e te) (hr : DenA X es t) (hs : starEach (e :: es) X.env = (false, eval e X.env) :: starEach es X.env := by rfl) : DenA X (e :: es) (aCons te t) :=
  ⟨fun F ρ M P EX W σ H Q S tk h hP hX => fun pos pins s I => (pa_cons (pe_ew (X := X)) (pa_gw (X := X)) hs).run pos pins s σ H Q I
    (ha.run F ρ M _ EX W σ H _ S tk h (fun v x M1 H1 s1 m1 dv q =>
      hr.run F ρ M1 _ EX W σ H1 _ (S.step s1 m1) tk q (fun vs xs M2 H2 s2 m2 dvs p => hP _ _ M2 H2 (s1.trans s2) m2 (.cons (dv.step s2) dvs) p) (hX.step s1)) hX)⟩
def aTup (t : AA) : AE := fun ρ M P EX => t ρ M (fun ds M1 => ds.length ≤ 100000 ∧ P (.tup ds) M1) EX
/-- a list that isn't changed any more -/
def aLst (t : AA) : AE := fun ρ M P EX => t ρ M (fun ds M1 => ds.length ≤ 100000 ∧ P (.lst ds) M1) EX
/-- a list that may change -/
def aLstM (t : AA) : AE := fun ρ M P EX => t ρ M (fun ds M1 => ds.length ≤ 100000 ∧ ∀ q, q ∉ dom M1 → P (.ref q) (M1 ++ [(q, .lst ds)])) EX
theorem sz {n : Nat} (h : n ≤ 100000) : n ≤ sizeLine := Nat.le_trans h (by decide)
theorem step_new {H : Hp} {M : Mem} {p : Addr} {o : HO} (hp : H p = none) : Step H M (upd H p o) M :=
  ⟨fun b u _ e => by rw [upd_ne (ne_of_none e hp)]; exact e, fun b hb => Or.inl hb⟩
theorem MoOk.step {K : PySem.W.Frag} {H H' : Hp} {M M' : Mem} {F : List Addr} {a : Addr} {o : MO} (h : MoOk K H (um F M) a o) (e : H' a = H a) (s : Step H M H' M') : MoOk K H' (um F M') a o := by
  cases o with
  | lst ds =>
    obtain ⟨xs, e1, e2⟩ := h
    exact ⟨xs, e.trans e1, e2.step s⟩
  | ins C fs =>
    obtain ⟨dx, xs, e1, e2⟩ := h
    exact ⟨dx, xs, e.trans e1, e2.step s⟩
  | dK kvs =>
    obtain ⟨xs, e1, e2⟩ := h
    exact ⟨xs, e.trans e1, e2.step s⟩
  | any o => exact e.trans h
theorem mst_new {K : PySem.W.Frag} {H : Hp} {F : List Addr} {M : Mem} {p : Addr} {o : HO} (m : MSt K H F M) (hp : H p = none) : MSt K (upd H p o) F M :=
  ⟨m.nd, fun q hq => (m.ok q hq).step (upd_ne (fun z => by
    obtain ⟨u, e⟩ := (m.ok q hq).there
    rw [z, hp] at e; cases e)) (step_new hp), fun b hb => ⟨(m.fr b hb).1, let ⟨u, e⟩ := (m.fr b hb).2; ⟨u, by rw [upd_ne (ne_of_none e hp)]; exact e⟩⟩⟩
theorem dom_app {M : Mem} {p : Addr} {o : MO} : dom (M ++ [(p, o)]) = dom M ++ [p] := by simp [dom]
theorem step_newM {H : Hp} {M : Mem} {p : Addr} {o : HO} {mo : MO} (hp : H p = none) : Step H M (upd H p o) (M ++ [(p, mo)]) :=
  ⟨fun b u _ e => by rw [upd_ne (ne_of_none e hp)]; exact e, fun b hb => by
    rw [dom_app] at hb
    rcases List.mem_append.mp hb with h | h
    · exact Or.inl h
    · rw [List.mem_singleton.mp h]; exact Or.inr hp⟩
theorem mst_newM {K : PySem.W.Frag} {H : Hp} {F : List Addr} {M : Mem} {p : Addr} {o : HO} {mo : MO} (m : MSt K H F M) (hp : H p = none) (h : MoOk K (upd H p o) (um F (M ++ [(p, mo)])) p mo) : MSt K (upd H p o) F (M ++ [(p, mo)]) := by
  refine ⟨?_, fun q hq => ?_, fun b hb => ⟨?_, ?_⟩⟩
  · rw [dom_app]
    refine List.nodup_append.mpr ⟨m.nd, by simp, fun a ha b hb => ?_⟩
    rw [List.mem_singleton.mp hb]
    rintro rfl
    exact m.notin hp (List.mem_append_left _ ha)
  · rcases List.mem_append.mp hq with h' | h'
    · exact (m.ok q h').step (upd_ne (fun z => by
        obtain ⟨u, e⟩ := (m.ok q h').there
        rw [z, hp] at e; cases e)) (step_newM hp)
    · rw [List.mem_singleton.mp h']
      exact h
  · rw [dom_app]
    intro z
    rcases List.mem_append.mp z with z | z
    · exact (m.fr b hb).1 z
    · rw [List.mem_singleton.mp z] at hb
      exact m.notin hp (List.mem_append_right _ hb)
  · obtain ⟨u, e⟩ := (m.fr b hb).2
    exact ⟨u, by rw [upd_ne (ne_of_none e hp)]; exact e⟩
end
end Ab
set_option maxRecDepth 100000
set_option maxHeartbeats 2000000
/-! Ab3: statements, calls, defs. -/
namespace Ab
open PySem L2

section
variable {X : Cx} {st : Stmt} {sts : List Stmt} {t u : AS} {e : Expr} {te : AE} {pos : Pos}
def aNext : AS := fun ρ M k => k.nx ρ M
def aSeq (t u : AS) : AS := fun ρ M k => t ρ M { k with nx := fun ρ' M' => u ρ' M' k }
theorem db_nil : DenB X [] aNext := ⟨fun F ρ M k W σ H D S tk h L => fun pins s I => pss_nil.run pins s σ H D I (L.nx ρ M σ H (Step.refl H M) S h)⟩
theorem db_cons (h1 : DenS X st t) (h2 : DenB X sts u) : DenB X (st :: sts) (aSeq t u) :=
  ⟨fun F ρ M k W σ H D S tk h L => fun pins s I => (pss_cons (ps_sw (X := X)) (pss_bw (X := X))).run pins s σ H D I
    (h1.run F ρ M _ W σ H { D with nx := BW X sts D } S tk h
      ⟨fun ρ' M' σ' H' s S' q => h2.run F ρ' M' k W σ' H' D S' tk q (L.step s), L.rt, L.bk, L.ct, L.ex⟩)⟩
theorem db_one (h1 : DenS X st t) : DenB X [st] t :=
  ⟨fun F ρ M k W σ H D S tk h L => fun pins s I => (pss_one (ps_sw (X := X))).run pins s σ H D I (h1.run F ρ M k W σ H D S tk h L)⟩
def aNeverS : AS := fun _ _ _ => False
theorem ds_never : DenS X st aNeverS := ⟨fun _ _ _ _ _ _ _ _ _ _ h _ => h.elim⟩
theorem db_never : DenB X sts aNeverS := ⟨fun _ _ _ _ _ _ _ _ _ _ h _ => h.elim⟩
theorem ds_pass : DenS X (.Pass pos) aNext := ⟨fun F ρ M k W σ H D S tk h L => fun pins s I => ps_pass.run pins s σ H D I (L.nx ρ M σ H (Step.refl H M) S h)⟩
def aBreak : AS := fun ρ M k => k.bk ρ M
def aCont : AS := fun ρ M k => k.ct ρ M
theorem ds_break : DenS X (.Break pos) aBreak := ⟨fun F ρ M k W σ H D S tk h L => fun pins s I => ps_break.run pins s σ H D I (L.bk ρ M σ H (Step.refl H M) S h)⟩
theorem ds_cont : DenS X (.Continue pos) aCont := ⟨fun F ρ M k W σ H D S tk h L => fun pins s I => ps_continue.run pins s σ H D I (L.ct ρ M σ H (Step.refl H M) S h)⟩
theorem ds_doc {x : Str} {j : Nat} {pos' : Pos} : DenS X (.Expr (.Constant (.str x) j pos) pos') aNext := ⟨fun F ρ M k W σ H D S tk h L => fun pins s I => ps_doc.run pins s σ H D I (L.nx ρ M σ H (Step.refl H M) S h)⟩
def aRet (te : AE) : AS := fun ρ M k => te ρ M k.rt (fun x M' => k.ex x ρ M')
theorem ds_ret (he : DenE X e te) : DenS X (.Return (some e) pos) (aRet te) :=
  ⟨fun F ρ M k W σ H D S tk h L => fun pins s I => (ps_ret (pe_ew (X := X))).run pins s σ H D I
    (he.run F ρ M k.rt _ W σ H D.rt S tk h (fun v d M' H' s m dv q => L.rt v d M' H' s m dv q) (L.lx S))⟩
def aRetN : AS := fun _ M k => k.rt .non M
theorem ds_retN : DenS X (.Return none pos) aRetN := ⟨fun F ρ M k W σ H D S tk h L => fun pins s I => ps_retN.run pins s σ H D I (L.rt _ _ M H (Step.refl H M) S.ms .non h)⟩
def aDrop (te : AE) : AS := fun ρ M k => te ρ M (fun _ M' => k.nx ρ M') (fun x M' => k.ex x ρ M')
theorem ds_expr (he : DenE X e te) (hs : swapsWith e none pos.line X.env = pure false := by rfl) : DenS X (.Expr e pos) (aDrop te) :=
  ⟨fun F ρ M k W σ H D S tk h L => fun pins s I => (ps_expr (pe_ew (X := X)) hs).run pins s σ H D I
    (he.run F ρ M _ _ W σ H _ S tk h (fun v d M' H' s m dv q => L.nx ρ M' σ H' s (S.step s m) q) (L.lx S))⟩
def aIfS (c : AT) (t u : AS) : AS := fun ρ M k => c ρ M (fun b M1 => (b = true → t ρ M1 k) ∧ (b = false → u ρ M1 k)) (fun x M' => k.ex x ρ M')
theorem ds_if {c : Expr} {a b : List Stmt} {tc : AT} (hc : DenT X c tc) (ha : DenB X a t) (hb : DenB X b u) : DenS X (.If c a b pos) (aIfS tc t u) :=
  ⟨fun F ρ M k W σ H D S tk h L => fun pins s I => (ps_if (pt_tw (X := X)) (pss_bw (X := X)) (pss_bw (X := X))).run pins s σ H D I
    (hc.run F ρ M _ _ W σ H _ S tk h (fun b M1 H1 s1 m1 q => by
      cases b with
      | true =>
        show BW X _ D σ H1
        exact ha.run F ρ M1 k W σ H1 D (S.step s1 m1) tk (q.1 rfl) (L.step s1)
      | false =>
        show BW X _ D σ H1
        exact hb.run F ρ M1 k W σ H1 D (S.step s1 m1) tk (q.2 rfl) (L.step s1)) (L.lx S))⟩

/-! ### targets -/
abbrev AG := D → Rho → Mem → (Rho → Mem → Prop) → Prop
abbrev AGs := List D → Rho → Mem → (Rho → Mem → Prop) → Prop
def GT (X : Cx) (tg : Expr) : TG := fun v σ H Q => ∀ (pins : List (Addr × Obj)) (s : Shared) (u : Value), Inv X pins σ H s → RelV v u → wpAny (model X.prog X.w) X.A (assign tg X.env u) (fun _ s' => ∃ σ' H', Inv X pins σ' H' s' ∧ Q σ' H') X.xe s
theorem pg_gt {tg : Expr} : PG X tg (GT X tg) := ⟨fun pins s σ H v u Q I r h => h pins s u I r⟩
def GTs (X : Cx) (ts : List Expr) : TGs := fun vs σ H Q => ∀ (pins : List (Addr × Obj)) (s : Shared) (us : List Value), Inv X pins σ H s → Vals vs us → wpAny (model X.prog X.w) X.A (assignInOrder ((assignEach ts X.env).map (·.2)) us) (fun _ s' => ∃ σ' H', Inv X pins σ' H' s' ∧ Q σ' H') X.xe s
theorem pgs_gt {ts : List Expr} : PGs X ts (GTs X ts) := ⟨fun pins s σ H vs us Q I r h => h pins s us I r⟩
/-- the slots but some are as they were -/
def OutEq (vs : List Nat) (σ σ' : L2.St) : Prop := σ'.length = σ.length ∧ ∀ i, i ∉ vs → σ'[i]? = σ[i]?
theorem OutEq.refl {vs : List Nat} {σ : L2.St} : OutEq vs σ σ := ⟨rfl, fun _ _ => rfl⟩
theorem OutEq.trans {vs ws : List Nat} {σ σ1 σ2 : L2.St} (a : OutEq vs σ σ1) (b : OutEq ws σ1 σ2) : OutEq (vs ++ ws) σ σ2 :=
  ⟨b.1.trans a.1, fun i h => (b.2 i (fun z => h (List.mem_append_right _ z))).trans (a.2 i (fun z => h (List.mem_append_left _ z)))⟩
/-- a target, of code that raises nothing -/
structure DenG (X : Cx) (tg : Expr) (vs : List Nat) (g : AG) : Prop where
  run : ∀ (F : List Addr) (v : V) (d : D) (ρ : Rho) (M : Mem) (P : Rho → Mem → Prop) (W : WX) (σ : L2.St) (H : Hp) (Q : L2.St → Hp → Prop), Sta X H F M σ ρ → DV X.K H (um F M) v d → Takes X W → g d ρ M P →
    (∀ ρ' M' σ' H', Step H M H' M' → Sta X H' F M' σ' ρ' → OutEq vs σ σ' → P ρ' M' → Q σ' H') → GT X tg v σ H Q
structure DenGs (X : Cx) (ts : List Expr) (vs : List Nat) (g : AGs) : Prop where
  run : ∀ (F : List Addr) (ws : List V) (ds : List D) (ρ : Rho) (M : Mem) (P : Rho → Mem → Prop) (W : WX) (σ : L2.St) (H : Hp) (Q : L2.St → Hp → Prop), Sta X H F M σ ρ → DVs X.K H (um F M) ws ds → Takes X W → g ds ρ M P →
    (∀ ρ' M' σ' H', Step H M H' M' → Sta X H' F M' σ' ρ' → OutEq vs σ σ' → P ρ' M' → Q σ' H') → GTs X ts ws σ H Q
def sS : Rho → Nat → D → Rho
  | [], _, _ => []
  | _ :: r, 0, d => some d :: r
  | a :: r, n + 1, d => a :: sS r n d
theorem sS_set : ∀ (ρ : Rho) (i : Nat) (d : D), sS ρ i d = ρ.set i (some d)
  | [], _, _ => rfl
  | _ :: _, 0, _ => rfl
  | a :: r, n + 1, d => by
    show a :: sS r n d = _
    rw [sS_set r n d]; rfl
def gNameA (i : Nat) : AG := fun d ρ M P => P (sS ρ i d) M
theorem dg_name (i : Nat) {x : Str} (hN : X.N.Nodup) (hi : X.N[i]? = some x := by rfl) (hx : Loc X.env.scope x := by first | exact Or.inl rfl | exact Or.inr rfl) (hf : X.fn x = true ∨ X.env.scope.names.lookup x = some .local := by first | exact .inl rfl | exact .inr rfl | assumption) : DenG X (.Name x pos) [i] (gNameA i) :=
  ⟨fun F v d ρ M P W σ H Q S dv tk h hP => fun pins s u I r => (pg_name hN hi hx hf).run pins s σ H v u Q I r (hP _ M _ H (Step.refl H M) ⟨by rw [sS_set]; exact S.sl.set dv i, S.ms⟩ ⟨by rw [List.length_set], fun j hj => List.getElem?_set_ne (fun z => hj (by rw [z]; exact List.mem_singleton.mpr rfl))⟩ h)⟩
def gNilA : AGs := fun ds ρ M P => ds = [] ∧ P ρ M
def gConsA (g : AG) (gs : AGs) : AGs := fun ds ρ M P => ∃ d r, ds = d :: r ∧ g d ρ M (fun ρ' M' => gs r ρ' M' P)
theorem dgs_nil : DenGs X [] [] gNilA := ⟨fun F ws ds ρ M P W σ H Q S dv tk h hP => fun pins s us I r => by
  obtain ⟨rfl, h⟩ := h
  cases dv
  exact pgs_nil.run pins s σ H [] us Q I r ⟨rfl, hP ρ M σ H (Step.refl H M) S OutEq.refl h⟩⟩
theorem dgs_cons {tg : Expr} {ts : List Expr} {g : AG} {gs : AGs} {vs ws : List Nat} (h1 : DenG X tg vs g) (h2 : DenGs X ts ws gs) (hs : (assignEach (tg :: ts) X.env).map (·.2) = assign tg X.env :: (assignEach ts X.env).map (·.2) := by rfl) : DenGs X (tg :: ts) (vs ++ ws) (gConsA g gs) :=
  ⟨fun F zs ds ρ M P W σ H Q S dv tk h hP => fun pins s us I r => by
    obtain ⟨d, rr, rfl, h⟩ := h
    cases dv with
    | cons a b =>
      exact (pgs_cons (pg_gt (X := X)) (pgs_gt (X := X)) hs).run pins s σ H _ us Q I r ⟨_, _, rfl, h1.run F _ d ρ M _ W σ H _ S a tk h fun ρ' M' σ' H' s1 S1 o1 q =>
        h2.run F _ rr ρ' M' P W σ' H' Q S1 (b.step s1) tk q fun ρ2 M2 σ2 H2 s2 S2 o2 p => hP ρ2 M2 σ2 H2 (s1.trans s2) S2 (o1.trans o2) p⟩⟩
theorem DV.tup_inv {K : PySem.W.Frag} {H : Hp} {U : List Addr} {v : V} {ds : List D} (h : DV K H U v (.tup ds)) : ∃ a xs, v = .ref a ∧ SqT K H a xs ∧ DVs K H U xs ds := by
  cases h with
  | tup h hn t => exact ⟨_, _, rfl, .inl h, t⟩
  | tupK h t => exact ⟨_, _, rfl, h H, t⟩
def gTupA (n : Nat) (gs : AGs) : AG := fun d ρ M P => ∃ ds, d = .tup ds ∧ ds.length = n ∧ gs ds ρ M P
theorem dg_tup {es : List Expr} {j : Nat} {gs : AGs} {n : Nat} {vs : List Nat} (hc : X.calm = true) (h : DenGs X es vs gs) (hn : (assignEach es X.env).length = n := by rfl) (hst : (assignEach es X.env).findIdx? (·.1) = none := by rfl) : DenG X (.Tuple es j pos) vs (gTupA n gs) :=
  ⟨fun F v d ρ M P W σ H Q S dv tk q hP => fun pins s u I r => by
    obtain ⟨ds, rfl, hl, q⟩ := q
    obtain ⟨a, xs, rfl, hs, dvs⟩ := dv.tup_inv
    exact (pg_tup hc (pgs_gt (X := X)) hn hst).run pins s σ H _ u Q I r ⟨a, xs, rfl, hs, dvs.length.trans hl, h.run F xs ds ρ M P W σ H Q S dvs tk q hP⟩⟩
/-- target = value -/
def aAsg (te : AE) (g : AG) : AS := fun ρ M k => te ρ M (fun d M' => g d ρ M' k.nx) (fun x M' => k.ex x ρ M')
theorem ds_asg {tg : Expr} {g : AG} {vs : List Nat} (he : DenE X e te) (hg : DenG X tg vs g) (hs : swapsWithSole [tg] e pos.line X.env = pure false := by rfl) (hw : swappedStores [tg] e X.env = pure none := by rfl)
    (h1 : (assignEach [tg] X.env).map (·.2) = [assign tg X.env] := by rfl) : DenS X (.Assign [tg] e pos) (aAsg te g) :=
  ⟨fun F ρ M k W σ H D S tk h L => fun pins s I => (ps_asg (pe_ew (X := X)) (pg_gt (X := X)) hs hw h1).run pins s σ H D I
    (he.run F ρ M _ _ W σ H _ S tk h (fun v d M' H' s m dv q => hg.run F v d ρ M' k.nx W σ H' D.nx (S.step s m) dv tk q fun ρ2 M2 σ2 H2 s2 S2 _ p => L.nx ρ2 M2 σ2 H2 (s.trans s2) S2 p) (L.lx S))⟩
theorem ds_set (i : Nat) {x : Str} {pos' : Pos} (hN : X.N.Nodup) (he : DenE X e te) (hi : X.N[i]? = some x := by rfl) (hx : Loc X.env.scope x := by first | exact Or.inl rfl | exact Or.inr rfl) (hs : swapsWith e (some (.Name x pos')) pos.line X.env = pure false := by rfl) (hf : X.fn x = true ∨ X.env.scope.names.lookup x = some .local := by first | exact .inl rfl | exact .inr rfl | assumption) :
    DenS X (.Assign [.Name x pos'] e pos) (aAsg te (gNameA i)) :=
  ⟨fun F ρ M k W σ H D S tk h L => fun pins s I => (ps_set hN hi hx (pe_ew (X := X)) hs hf).run pins s σ H D I
    (he.run F ρ M _ _ W σ H _ S tk h (fun v d M' H' s m dv q => L.nx _ M' _ H' s ⟨by rw [sS_set]; exact (S.sl.step s).set dv i, m⟩ q) (L.lx S))⟩

/-! ### for -/
/-- items xs, drawn one by one: at turn i the i-th, the heap perhaps grown -/
def ItOk (X : Cx) (J : It) (xs : List D) (H : Hp) (F : List Addr) (M : Mem) : Prop := ∀ F' H' M', StepX F H M H' M' → FrGo H F F' → MSt X.K H' F' M' →
  (∀ i d, xs[i]? = some d → J.go i H' ∧ ∀ x H2, J.yld i H' x H2 → Step H' M' H2 M' ∧ MSt X.K H2 F' M' ∧ DV X.K H2 (um F' M') x d) ∧ J.stop xs.length H'
abbrev AI := Rho → Mem → (List D → Mem → Prop) → XKA → Prop
def IW (X : Cx) (tg iter : Expr) : TI := fun σ H R => ∀ (pins : List (Addr × Obj)) (s : Shared), Inv X pins σ H s →
  wpAny (model X.prog X.w) X.A (eval iter X.env) (fun v s1 => wpAny (model X.prog X.w) X.A (pyIter v) (PIE X pins σ tg R) X.xe s1) X.xe s
theorem pi_iw {tg iter : Expr} : PI X tg iter (IW X tg iter) := ⟨fun pins s σ H R I h => h pins s I⟩
structure DenI (X : Cx) (tg iter : Expr) (ai : AI) : Prop where
  run : ∀ (F : List Addr) (ρ : Rho) (M : Mem) (P : List D → Mem → Prop) (EX : XKA) (W : WX) (σ : L2.St) (H : Hp) (R : It → Hp → Prop), Sta X H F M σ ρ → Takes X W → ai ρ M P EX →
    (∀ J xs M' H', Step H M H' M' → MSt X.K H' F M' → ItOk X J xs H' F M' → P xs M' → R J H') → LX X H F M EX (fun cls d H' => W cls d σ H') → IW X tg iter σ H R
/-- the turns of a loop over items, by an invariant -/
def LoopA (g : AG) (body : AS) (k : KE) (xs : List D) (ρ : Rho) (M : Mem) : Prop := ∃ J : Nat → Rho → Mem → Prop, J 0 ρ M ∧
  (∀ i d ρ' M', xs[i]? = some d → J i ρ' M' → g d ρ' M' (fun ρ1 M1 => body ρ1 M1 { k with nx := J (i + 1), ct := J (i + 1), bk := k.nx })) ∧ ∀ ρ' M', J xs.length ρ' M' → k.nx ρ' M'
/-- the turns one by one -/
def loopR (g : AG) (body : AS) (k : KE) : List D → Rho → Mem → Prop
  | [], ρ, M => k.nx ρ M
  | d :: r, ρ, M => g d ρ M (fun ρ1 M1 => body ρ1 M1 { k with nx := fun ρ' M' => loopR g body k r ρ' M', ct := fun ρ' M' => loopR g body k r ρ' M', bk := k.nx })
theorem LoopA.turns {g : AG} {body : AS} {k : KE} {xs : List D} {ρ : Rho} {M : Mem} (h : loopR g body k xs ρ M) : LoopA g body k xs ρ M := by
  refine ⟨fun i ρ M => loopR g body k (xs.drop i) ρ M, h, fun i d ρ' M' e q => ?_, fun ρ' M' q => ?_⟩
  · have e2 : xs.drop i = d :: xs.drop (i + 1) := by
      obtain ⟨hl, e3⟩ := List.getElem?_eq_some_iff.mp e
      rw [List.drop_eq_getElem_cons hl, e3]
    have q2 : loopR g body k (xs.drop i) ρ' M' := q
    rw [e2] at q2
    exact q2
  · have q2 : loopR g body k (xs.drop xs.length) ρ' M' := q
    rw [List.drop_length] at q2
    exact q2
def aFor (ai : AI) (g : AG) (body : AS) : AS := fun ρ M k => ai ρ M (fun xs M1 => LoopA g body k xs ρ M1) (fun x M' => k.ex x ρ M')
theorem ds_for {tg iter : Expr} {body : List Stmt} {ai : AI} {g : AG} {tb : AS} {vs : List Nat} (hp : PassesOwn (model X.prog X.w) X.A X.env X.xe) (hc : X.calm = true) (hi : DenI X tg iter ai) (hg : DenG X tg vs g) (hb : DenB X body tb)
    (hs : ∀ x, foldedSetIterable iter X.env x = pure x := by intro _; rfl) : DenS X (.For tg iter body [] pos) (aFor ai g tb) :=
  ⟨fun F ρ M k W σ H D S tk h L => fun pins s I => by
    refine (ps_for hp hc (pi_iw (X := X)) (pg_gt (X := X)) (pss_bw (X := X)) hs).run pins s σ H D I ?_
    refine hi.run F ρ M _ _ W σ H _ S tk h (fun J xs M1 H1 s1 m1 io hL => ?_) (L.lx S)
    obtain ⟨Jv, h0, hstep, hd⟩ := hL
    refine ⟨fun i m σ' H' => m + i = xs.length ∧ ∃ ρ' M', Step H1 M1 H' M' ∧ Sta X H' F M' σ' ρ' ∧ Jv i ρ' M', ⟨xs.length, Nat.add_zero _, ρ, M1, Step.refl _ _, S.step s1 m1, h0⟩, ?_⟩
    rintro i m σ' H' ⟨hm, ρ', M', s', S', hj⟩
    obtain ⟨ho, hstop⟩ := io F H' M' s'.toX FrGo.refl S'.ms
    by_cases hi' : i = xs.length
    · subst hi'
      exact Or.inl ⟨hstop, L.nx ρ' M' σ' H' (s1.trans s') S' (hd ρ' M' hj)⟩
    · have hlt : i < xs.length := by omega
      obtain ⟨d, hd'⟩ : ∃ d, xs[i]? = some d := ⟨_, List.getElem?_eq_getElem hlt⟩
      obtain ⟨hgo, hy⟩ := ho i d hd'
      refine Or.inr ⟨hgo, fun σ2 H2 => ∃ ρ2 M2, Step H1 M1 H2 M2 ∧ Sta X H2 F M2 σ2 ρ2 ∧ Jv (i + 1) ρ2 M2, fun σ2 H2 q => ⟨m - 1, by omega, by omega, q⟩, fun x H2 hyl => ?_⟩
      obtain ⟨s2, m2, dx⟩ := hy x H2 hyl
      refine hg.run F x d ρ' M' _ W σ' H2 _ (S'.step s2 m2) dx tk (hstep i d ρ' M' hd' hj) fun ρ3 M3 σ3 H3 s3 S3 _ q3 => ?_
      have l3 := ((s1.trans s').trans s2).trans s3
      refine hb.run F ρ3 M3 _ W σ3 H3 _ S3 tk q3 ⟨fun ρ4 M4 σ4 H4 s4 S4 q4 => ⟨ρ4, M4, ((s'.trans s2).trans s3).trans s4, S4, q4⟩, fun v d' M4 H4 s4 m4 dv q4 => L.rt v d' M4 H4 (l3.trans s4) m4 dv q4,
        fun ρ4 M4 σ4 H4 s4 S4 q4 => L.nx ρ4 M4 σ4 H4 (l3.trans s4) S4 q4, fun ρ4 M4 σ4 H4 s4 S4 q4 => ⟨ρ4, M4, ((s'.trans s2).trans s3).trans s4, S4, q4⟩, fun x' ρ4 M4 cls dd σ4 H4 s4 S4 xv q4 => L.ex x' ρ4 M4 cls dd σ4 H4 (l3.trans s4) S4 xv q4⟩⟩

/-! ### what is walked -/
/-- a list or tuple that isn't changed -/
inductive SeqA : D → List D → Prop
  | tup {l : List D} : SeqA (.tup l) l
  | lst {l : List D} : SeqA (.lst l) l
  | lsk {l : List D} : SeqA (.lsk l) l
def iLstA (te : AE) : AI := fun ρ M P EX => te ρ M (fun d M1 => ∃ l, (d = .lst l ∨ d = .lsk l) ∧ P l M1) EX
def iTupA (te : AE) : AI := fun ρ M P EX => te ρ M (fun d M1 => ∃ l, d = .tup l ∧ P l M1) EX
/-- a list in memory, unchanged while the loop runs: the loop's body must leave it so (its entry is asked for at each turn) -/
theorem DV.list_inv {K : PySem.W.Frag} {H : Hp} {U : List Addr} {v : V} {ds : List D} (h : DV K H U v (.lst ds) ∨ DV K H U v (.lsk ds)) : ∃ a xs, v = .ref a ∧ SqL K H a xs ∧ DVs K H U xs ds := by
  rcases h with h | h
  · cases h with
    | lst h hn t => exact ⟨_, _, rfl, SqL.of h, t⟩
  · cases h with
    | lsk h hn t => exact ⟨_, _, rfl, .inl h, t⟩
    | lskK h t => exact ⟨_, _, rfl, h H, t⟩
theorem it_list {J : It} {a : Addr} {xs : List V} {ds : List D} {H : Hp} {F : List Addr} {M : Mem} (hJ : J = Itl X.K a) (hs : ∀ F' H' M', StepX F H M H' M' → FrGo H F F' → SqL X.K H' a xs ∧ DVs X.K H' (um F' M') xs ds)
    : ItOk X J ds H F M := fun F' H' M' s' f' m' => by
  subst hJ
  obtain ⟨h1, h2⟩ := hs F' H' M' s' f'
  refine ⟨fun i d e => ?_, ⟨xs, h1, Nat.le_of_eq h2.length⟩⟩
  obtain ⟨x, ex, dx⟩ := h2.get e
  refine ⟨⟨xs, x, h1, ex⟩, fun y H2 q => ?_⟩
  obtain ⟨rfl, q⟩ := q
  have := q xs h1
  rw [ex] at this; cases this
  exact ⟨Step.refl _ _, m', dx⟩
theorem it_tup {J : It} {a : Addr} {xs : List V} {ds : List D} {H : Hp} {F : List Addr} {M : Mem} (hJ : J = Itt X.K a) (hs : ∀ F' H' M', StepX F H M H' M' → FrGo H F F' → SqT X.K H' a xs ∧ DVs X.K H' (um F' M') xs ds)
    : ItOk X J ds H F M := fun F' H' M' s' f' m' => by
  subst hJ
  obtain ⟨h1, h2⟩ := hs F' H' M' s' f'
  refine ⟨fun i d e => ?_, ⟨xs, h1, Nat.le_of_eq h2.length⟩⟩
  obtain ⟨x, ex, dx⟩ := h2.get e
  refine ⟨⟨xs, x, h1, ex⟩, fun y H2 q => ?_⟩
  obtain ⟨rfl, q⟩ := q
  have := q xs h1
  rw [ex] at this; cases this
  exact ⟨Step.refl _ _, m', dx⟩
theorem di_list {tg l : Expr} {tl : AE} (hl : DenE X l tl) : DenI X tg l (iLstA tl) :=
  ⟨fun F ρ M P EX W σ H R S tk h hP hX => fun pins s I => (pi_list (pe_ew (X := X))).run pins s σ H R I
    (hl.run F ρ M _ EX W σ H _ S tk h (fun v d M1 H1 s1 m1 dv q => by
      obtain ⟨ds, hd, q⟩ := q
      rcases hd with rfl | rfl
      · cases dv with
        | lst h hn t => exact ⟨_, rfl, ⟨_, SqL.of h⟩, hP _ ds M1 H1 s1 m1 (it_list rfl fun F' H' M' s' f' => ⟨SqL.of (s'.keepU h hn), t.step2X s' f'⟩) q⟩
      · cases dv with
        | lsk h hn t => exact ⟨_, rfl, ⟨_, .inl h⟩, hP _ ds M1 H1 s1 m1 (it_list rfl fun F' H' M' s' f' => ⟨.inl (s'.rd h hn), t.step2X s' f'⟩) q⟩
        | lskK h t => exact ⟨_, rfl, ⟨_, h H1⟩, hP _ ds M1 H1 s1 m1 (it_list rfl fun F' H' M' s' f' => ⟨h H', t.step2X s' f'⟩) q⟩) hX)⟩
theorem di_tup {tg l : Expr} {tl : AE} (hl : DenE X l tl) : DenI X tg l (iTupA tl) :=
  ⟨fun F ρ M P EX W σ H R S tk h hP hX => fun pins s I => (pi_tup (pe_ew (X := X))).run pins s σ H R I
    (hl.run F ρ M _ EX W σ H _ S tk h (fun v d M1 H1 s1 m1 dv q => by
      obtain ⟨ds, rfl, q⟩ := q
      cases dv with
      | tup h hn t => exact ⟨_, rfl, ⟨_, .inl h⟩, hP _ ds M1 H1 s1 m1 (it_tup rfl fun F' H' M' s' f' => ⟨.inl (s'.rd h hn), t.step2X s' f'⟩) q⟩
      | tupK h t => exact ⟨_, rfl, ⟨_, h H1⟩, hP _ ds M1 H1 s1 m1 (it_tup rfl fun F' H' M' s' f' => ⟨h H', t.step2X s' f'⟩) q⟩) hX)⟩
/-- lo, lo + 1, .. -/
def rngD (lo : Int) (n : Nat) : List D := (List.range n).map fun (i : Nat) => D.int (lo + (i : Int))
theorem rngD_length {lo : Int} {n : Nat} : (rngD lo n).length = n := by simp [rngD]
theorem rngD_get {lo : Int} {n i : Nat} {d : D} (h : (rngD lo n)[i]? = some d) : i < n ∧ d = .int (lo + (i : Int)) := by
  have hi : i < n := by
    have := (List.getElem?_eq_some_iff.mp h).1
    rwa [rngD_length] at this
  refine ⟨hi, ?_⟩
  simp [rngD, hi] at h
  exact h.symm
theorem it_rng {lo : Int} {n : Nat} {H : Hp} {F : List Addr} {M : Mem} : ItOk X (Itr lo n) (rngD lo n) H F M := fun F' H' M' s' f' m' => by
  refine ⟨fun i d e => ?_, by rw [rngD_length]; exact Nat.le_refl n⟩
  obtain ⟨hi, rfl⟩ := rngD_get e
  refine ⟨hi, fun y H2 q => ?_⟩
  obtain ⟨rfl, rfl⟩ := q
  exact ⟨Step.refl _ _, m', .int _⟩
theorem DVs.rngI : ∀ {K : PySem.W.Frag} {H : Hp} {U : List Addr} {vs : List V} {ds : List D} {is : List Int}, DVs K H U vs ds → ds = is.map D.int → vs = is.map V.int
  | _, _, _, _, _, [], .nil, _ => rfl
  | _, _, _, _, _, i :: is, .cons a b, e => by
    cases e
    cases a
    rw [DVs.rngI b rfl]; rfl
  | _, _, _, _, _, [], .cons _ _, e => by cases e
  | _, _, _, _, _, _ :: _, .nil, e => by cases e
def iRngA1 (t : AA) : AI := fun ρ M P EX => t ρ M (fun ds M1 => ∃ j : Int, ds = [.int j] ∧ -(2 ^ 62) ≤ j ∧ j < 2 ^ 62 ∧ P (rngD 0 j.toNat) M1) EX
def iRngA2 (t : AA) : AI := fun ρ M P EX => t ρ M (fun ds M1 => ∃ i j : Int, ds = [.int i, .int j] ∧ (-(2 ^ 62) ≤ i ∧ i < 2 ^ 62 ∧ -(2 ^ 62) ≤ j ∧ j < 2 ^ 62) ∧ P (rngD i (j - i).toNat) M1) EX
theorem di_range1 {tg a : Expr} {t : AA} {p pos : Pos} (hm : X.mg "range" = none) (ha : DenA X [a] t) (hg : Gl X "range" := by rfl) (hs : starEach [a] X.env = [(false, eval a X.env)] := by rfl) : DenI X tg (.Call (.Name "range" p) [a] [] pos) (iRngA1 t) :=
  ⟨fun F ρ M P EX W σ H R S tk h hP hX => fun pins s I => (pi_range1 hg hm (pa_gw (X := X)) hs).run pins s σ H R I
    (ha.run F ρ M _ EX W σ H _ S tk h (fun vs ds M1 H1 s1 m1 dv q => by
      obtain ⟨j, rfl, b1, b2, q⟩ := q
      exact ⟨j, DVs.rngI dv (is := [j]) rfl, b1, b2, hP _ _ M1 H1 s1 m1 it_rng q⟩) hX)⟩
theorem di_range2 {tg a b : Expr} {t : AA} {p pos : Pos} (hm : X.mg "range" = none) (ha : DenA X [a, b] t) (hg : Gl X "range" := by rfl) (hs : starEach [a, b] X.env = [(false, eval a X.env), (false, eval b X.env)] := by rfl) (hs2 : starEach [b] X.env = [(false, eval b X.env)] := by rfl) : DenI X tg (.Call (.Name "range" p) [a, b] [] pos) (iRngA2 t) :=
  ⟨fun F ρ M P EX W σ H R S tk h hP hX => fun pins s I => (pi_range2 hg hm (pa_gw (X := X)) hs hs2).run pins s σ H R I
    (ha.run F ρ M _ EX W σ H _ S tk h (fun vs ds M1 H1 s1 m1 dv q => by
      obtain ⟨i, j, rfl, b1, q⟩ := q
      exact ⟨i, j, DVs.rngI dv (is := [i, j]) rfl, b1, hP _ _ M1 H1 s1 m1 it_rng q⟩) hX)⟩
end
end Ab
set_option maxRecDepth 100000
set_option maxHeartbeats 2000000
/-! Ab4: calls, defs, methods, instances. -/
namespace Ab
open PySem L2 PyProof.Rows

/-- what a def promises, over data -/
abbrev ASp := List D → Mem → AK → XKA → Prop
def spOf (K : PySem.W.Frag) (S : ASp) : Sp := fun vs H Q E => ∃ (F : List Addr) (ds : List D) (M : Mem) (P : AK) (EX : XKA), DVs K H (um F M) vs ds ∧ MSt K H F M ∧ S ds M P EX ∧
  (∀ v d M' H', Step H M H' M' → MSt K H' F M' → DV K H' (um F M') v d → P d M' → Q v H') ∧
  (∀ x M' cls dd H', Step H M H' M' → MSt K H' F M' → XV K H' (um F M') x cls dd → EX x M' → E cls dd H')
/-- memory parted: what a callee sees, the rest -/
def Split (M Mc Mr : Mem) : Prop := (Mc ++ Mr).Perm M
theorem Split.all {M : Mem} : Split M M [] := by unfold Split; rw [List.append_nil]
theorem Split.none {M : Mem} : Split M [] M := List.Perm.refl _
theorem Split.mem {M Mc Mr : Mem} (h : Split M Mc Mr) {p : Addr × MO} : p ∈ M ↔ p ∈ Mc ∨ p ∈ Mr := by
  rw [← h.mem_iff, List.mem_append]
theorem Split.dm {M Mc Mr : Mem} (h : Split M Mc Mr) {a : Addr} : a ∈ dom M ↔ a ∈ dom Mc ∨ a ∈ dom Mr := by
  have e : (dom (Mc ++ Mr)).Perm (dom M) := h.map _
  rw [← e.mem_iff]; simp [dom]
theorem Split.umm {M Mc Mr : Mem} (h : Split M Mc Mr) {F : List Addr} {a : Addr} : a ∈ um F M ↔ a ∈ um (dom Mr ++ F) Mc := by
  simp only [um, List.mem_append, h.dm, or_assoc]
theorem Split.nd {M Mc Mr : Mem} (h : Split M Mc Mr) (n : (dom M).Nodup) : (dom Mc).Nodup ∧ (dom Mr).Nodup ∧ ∀ a ∈ dom Mc, a ∉ dom Mr := by
  have e : (dom (Mc ++ Mr)).Perm (dom M) := h.map _
  have n2 : (dom (Mc ++ Mr)).Nodup := e.symm.nodup n
  have e2 : dom (Mc ++ Mr) = dom Mc ++ dom Mr := by simp [dom]
  rw [e2] at n2
  obtain ⟨a, b, c⟩ := List.nodup_append.mp n2
  exact ⟨a, b, fun x hx hy => c x hx x hy rfl⟩
def CallM (S : ASp) (ds : List D) (M : Mem) (P : AK) (EX : XKA) : Prop := ∃ Mc Mr, Split M Mc Mr ∧ S ds Mc (fun d Mc' => P d (Mc' ++ Mr)) (fun x Mc' => EX x (Mc' ++ Mr))

section
variable {K : PySem.W.Frag} {H H' : Hp} {F : List Addr} {M Mc Mr Mc' : Mem}
theorem Split.mst (h : Split M Mc Mr) (m : MSt K H F M) : MSt K H (dom Mr ++ F) Mc := by
  obtain ⟨n1, n2, n3⟩ := h.nd m.nd
  refine ⟨n1, fun p hp => (m.ok p (h.mem.mpr (Or.inl hp))).anti fun a ha => h.umm.mpr ha, fun b hb => ?_⟩
  rcases List.mem_append.mp hb with z | z
  · exact ⟨fun y => n3 b y z, m.there (List.mem_append_left _ (h.dm.mpr (Or.inr z)))⟩
  · exact ⟨fun y => (m.fr b z).1 (h.dm.mpr (Or.inl y)), (m.fr b z).2⟩
theorem dom_cat {A B : Mem} : dom (A ++ B) = dom A ++ dom B := by simp [dom]
theorem um_cat {A B : Mem} {a : Addr} : a ∈ um F (A ++ B) ↔ a ∈ um (dom B ++ F) A := by
  simp only [um, dom_cat, List.mem_append, or_assoc]
theorem Split.back (h : Split M Mc Mr) (m : MSt K H F M) (s : Step H Mc H' Mc') (m' : MSt K H' (dom Mr ++ F) Mc') : Step H M H' (Mc' ++ Mr) ∧ MSt K H' F (Mc' ++ Mr) := by
  obtain ⟨n1, n2, n3⟩ := h.nd m.nd
  refine ⟨⟨fun b o hb e => s.keep b o (fun z => hb (h.dm.mpr (Or.inl z))) e, fun b hb => ?_⟩, ⟨?_, fun p hp => ?_, fun b hb => ?_⟩⟩
  · rw [dom_cat] at hb
    rcases List.mem_append.mp hb with z | z
    · exact (s.new b z).imp (fun y => h.dm.mpr (Or.inl y)) id
    · exact Or.inl (h.dm.mpr (Or.inr z))
  · rw [dom_cat]
    refine List.nodup_append.mpr ⟨m'.nd, n2, fun a ha b hb e => ?_⟩
    subst e
    exact (m'.fr a (List.mem_append_left _ hb)).1 ha
  · rcases List.mem_append.mp hp with z | z
    · exact (m'.ok p z).anti fun a ha => um_cat.mp ha
    · have hd : p.1 ∈ dom Mr := List.mem_map_of_mem (f := (·.1)) z
      have h0 := (m.ok p (h.mem.mpr (Or.inr z))).anti (U' := um (dom Mr ++ F) Mc) fun a ha => h.umm.mpr ha
      obtain ⟨u, e⟩ := h0.there
      have e2 : H' p.1 = H p.1 := by rw [e]; exact s.keep _ _ (fun y => n3 _ y hd) e
      exact (h0.step e2 s).anti fun a ha => um_cat.mp ha
  · refine ⟨fun z => ?_, (m'.fr b (List.mem_append_right _ hb)).2⟩
    rw [dom_cat] at z
    rcases List.mem_append.mp z with z | z
    · exact (m'.fr b (List.mem_append_right _ hb)).1 z
    · exact (m.fr b hb).1 (h.dm.mpr (Or.inr z))
end

section
variable {X : Cx} {k : Nat} {f C : Addr} {fd : FuncData} {ps : List Str} {S : ASp} {W : WX}
/-- a callee that keeps its promise, whatever its arguments' binding -/
theorem run_any {sp : Sp} {pins : List (Addr × Obj)} {σ : L2.St} {H : Hp} {s : Shared} {Q : VK} {us bs : List Value} {kw : List (Str × Value)} {vs : List V} (G : FnOk X.prog X.w X.K X.mg X.base (L2.CX X.prog X.w) k f fd ps sp) (hr : Room k X.A) (tk : Takes X W) (I : Inv X pins σ H s)
    (hb : BindsTo s fd ⟨us, kw⟩ (ps.zip bs)) (r : Vals vs bs) (h : sp vs H Q (fun cls d H' => W cls d σ H')) : wpAny (model X.prog X.w) X.A (call (.ref f) us kw) (EP X pins σ Q) X.xe s := by
  have run := G.run X.A X.stack s H ⟨us, kw⟩ bs vs Q _ hr I.env0 hb r h
  refine wpAny_call (codeAny_mono run fun res s' hq => ?_)
  match res, hq with
  | .error e, hq => exact tk e s' (XE.of_call I (fun _ _ _ z => z) hq)
  | .ok (.ret u), hq => exact I.after hq
/-- the same of a class: a new instance, then its __init__ -/
theorem run_mk {sp : Sp} {pins : List (Addr × Obj)} {σ : L2.St} {H : Hp} {s : Shared} {Q : VK} {us bs : List Value} {kw : List (Str × Value)} {vs : List V} (N : Mk X.K C f) (G : FnOk X.prog X.w X.K X.mg X.base (L2.CX X.prog X.w) k f fd ps sp) (hr : Room (k + 1) X.A) (tk : Takes X W) (I : Inv X pins σ H s)
    (hb : ∀ (t : Shared) (x : Addr), X.K.In t.heap → BindsTo t fd ⟨.ref x :: us, kw⟩ (ps.zip (.ref x :: bs))) (r : Vals vs bs)
    (h : ∀ x dx, H x = none → H dx = none → dx ≠ x → sp (.ref x :: vs) (upd (upd H dx (.own x)) x (.ins C dx [])) (fun v H2 => v = .non ∧ Q (.ref x) H2) (fun cls d H' => W cls d σ H')) :
    wpAny (model X.prog X.w) X.A (call (.ref C) us kw) (EP X pins σ Q) X.xe s := by
  have hq := h (s.heap.objs.size + 1) s.heap.objs.size (I.hok.fresh (Nat.le_succ _)) (I.hok.fresh (Nat.le_refl _)) (Nat.ne_of_lt (Nat.lt_succ_self _))
  have J := Inv.made (C := C) I
  have r2 : Vals (V.ref (s.heap.objs.size + 1) :: vs) (Value.ref (s.heap.objs.size + 1) :: bs) := .cons rfl r
  have run := G.run _ X.stack _ _ ⟨Value.ref (s.heap.objs.size + 1) :: us, kw⟩ (Value.ref (s.heap.objs.size + 1) :: bs) _ _ _ (hr.make C us kw) (J.env0.make C us kw) (hb _ _ J.kIn) r2 hq
  refine wpAny_call (make_map (f := f) I.kIn N.makes N.init (beq_iff_eq.mp N.fn) (codeAny_mono run fun res s' z => ?_))
  match res, z with
  | .error e, z => exact tk e s' (XE.of_call J (fun _ _ _ y => y) z)
  | .ok (.ret u), z =>
    obtain ⟨v, H', I3, rv, ev, q3⟩ := J.after z
    subst ev
    exact ⟨rv, ⟨V.ref (s.heap.objs.size + 1), H', I3, rfl, q3⟩⟩

/-- what a call over data asks, for what the call's run asks -/
theorem callM_sp {F : List Addr} {M : Mem} {H : Hp} {vs : List V} {ds : List D} {P : AK} {EX : XKA} {Q : VK} {E : XK} (m : MSt X.K H F M) (dv : DVs X.K H (um F M) vs ds) (h : CallM S ds M P EX)
    (hP : ∀ v d M' H', Step H M H' M' → MSt X.K H' F M' → DV X.K H' (um F M') v d → P d M' → Q v H') (hX : LX X H F M EX E) : spOf X.K S vs H Q E := by
  obtain ⟨Mc, Mr, sp, h⟩ := h
  refine ⟨dom Mr ++ F, ds, Mc, _, _, dv.anti fun a ha => sp.umm.mpr ha, sp.mst m, h, fun v d M' H' s m' dv' p => ?_, fun x M' cls dd H' s m' xv p => ?_⟩
  · obtain ⟨s2, m2⟩ := sp.back m s m'
    exact hP v d _ H' s2 m2 (dv'.anti fun a ha => um_cat.mp ha) p
  · obtain ⟨s2, m2⟩ := sp.back m s m'
    refine hX x _ cls dd H' s2 m2 ?_ p
    obtain ⟨e1, e2⟩ := xv
    refine ⟨e1, ?_⟩
    cases q : x.fs with
    | none => rw [q] at e2; exact e2
    | some fs =>
      rw [q] at e2
      obtain ⟨a, ws, y1, y2, y3, y4⟩ := e2
      exact ⟨a, ws, y1, y2, fun z => y3 (um_cat.mp z), y4.anti fun a ha => um_cat.mp ha⟩

/-! ### f(e, ..) -/
/-- how the arguments of a call come to the parameters: g of the data, written arguments and keywords -/
structure KB (K : PySem.W.Frag) (fd : FuncData) (ps : List Str) (ks : List Str) (n m : Nat) (g : List D → List D → List D) : Prop where
  to : ∃ (gV : List V → List V → List V) (gU : List Value → List Value → List Value), (∀ (s : Shared) (us ws : List Value), K.In s.heap → us.length = n → ws.length = m → BindsTo s fd ⟨us, ks.zip ws⟩ (ps.zip (gU us ws))) ∧
    (∀ (vs zs : List V) (us ws : List Value), vs.length = n → zs.length = m → Vals vs us → Vals zs ws → Vals (gV vs zs) (gU us ws)) ∧
    ∀ (H : Hp) (U : List Addr) (vs zs : List V) (ds es : List D), vs.length = n → zs.length = m → DVs K H U vs ds → DVs K H U zs es → DVs K H U (gV vs zs) (g ds es)
def aCall (S : ASp) (g : List D → List D → List D) (n : Nat) (t : AA) : AE := fun ρ M P EX => t ρ M (fun ds M1 => ds.length = n ∧ CallM S (g ds []) M1 P EX) EX
variable {x m : Str} {p pos apos : Pos} {e o : Expr} {es : List Expr} {t tk' : AA} {ta : AE} {n : Nat} {g : List D → List D → List D}
theorem kb_run {K : PySem.W.Frag} {ks : List Str} {m' : Nat} (B : KB K fd ps ks n m' g) {H : Hp} {U : List Addr} {vs zs : List V} {ds es : List D} {us ws : List Value} (dv : DVs K H U vs ds) (dz : DVs K H U zs es) (h1 : ds.length = n) (h2 : es.length = m') (r : Vals vs us) (rz : Vals zs ws) {s : Shared} (X' : K.In s.heap) :
    ∃ ys bs, BindsTo s fd ⟨us, ks.zip ws⟩ (ps.zip bs) ∧ Vals ys bs ∧ DVs K H U ys (g ds es) := by
  obtain ⟨gV, gU, b1, b2, b3⟩ := B.to
  have l1 : vs.length = n := dv.length.trans h1
  have l2 : zs.length = m' := dz.length.trans h2
  exact ⟨gV vs zs, gU us ws, b1 s us ws X' (r.length.symm.trans l1) (rz.length.symm.trans l2), b2 _ _ _ _ l1 l2 r rz, b3 H U _ _ _ _ l1 l2 dv dz⟩
theorem de_call (G : FnOk X.prog X.w X.K X.mg X.base (L2.CX X.prog X.w) k f fd ps (spOf X.K S)) (hr : Room k X.A) (hm : X.mg x = some (.ref f)) (hk : PySem.W.keepIn X.K (.ref f) = true) (B : KB X.K fd ps [] n 0 g) (ha : DenA X (e :: es) t)
    (hg : Gl X x := by rfl) (hdb : (x == ("__debug__" : Str)) = false := by decide) (he : starEach (e :: es) X.env = (false, eval e X.env) :: starEach es X.env := by rfl) (hpl : (backTo pos (starEach es X.env)).any (·.1) = false := by rfl) :
    DenE X (.Call (.Name x p) (e :: es) [] pos) (aCall S g n t) :=
  ⟨fun F ρ M P EX W σ H Q S' tk h hP hX => fun pins s I => by
    refine wpAny_Call_Name_kw (ld_glob I hg hm ?_ hdb)
    refine PySem.W.callWith_K (h₀ := X.base) I.ok.mod.kin hk ?_ he hpl
    refine thn (ha.run F ρ M _ EX W σ H (fun vs H1 => ∃ ds M1, Step H M H1 M1 ∧ MSt X.K H1 F M1 ∧ DVs X.K H1 (um F M1) vs ds ∧ ds.length = n ∧ CallM S (g ds []) M1 P EX) S' tk h (fun vs ds M1 H1 s1 m1 dv q => ⟨ds, M1, s1, m1, dv, q⟩) hX pos pins s I) ?_
    rintro us s1 ⟨vs, H1, I1, r, ds, M1, st1, m1, dv, hl, q⟩
    refine ⟨I1.kIn, ?_⟩
    obtain ⟨ys, bs, b1, b2, b3⟩ := kb_run B dv (zs := []) (es := []) (ws := []) .nil hl rfl r .nil I1.kIn
    exact run_any G hr tk I1 b1 b2 (callM_sp m1 b3 q (fun v d M' H' st mm dd p => hP v d M' H' (st1.trans st) mm dd p) (hX.step st1))⟩
theorem de_call0 (G : FnOk X.prog X.w X.K X.mg X.base (L2.CX X.prog X.w) k f fd ps (spOf X.K S)) (hr : Room k X.A) (hm : X.mg x = some (.ref f)) (hk : PySem.W.keepIn X.K (.ref f) = true) (B : KB X.K fd ps [] 0 0 g)
    (hg : Gl X x := by rfl) (hdb : (x == ("__debug__" : Str)) = false := by decide) :
    DenE X (.Call (.Name x p) [] [] pos) (aCall S g 0 aNil) :=
  ⟨fun F ρ M P EX W σ H Q S' tk h hP hX => fun pins s I => by
    obtain ⟨_, q⟩ := h
    refine wpAny_Call_Name_kw (ld_glob I hg hm ?_ hdb)
    refine PySem.W.callWith_K0 I.kIn hk ?_
    obtain ⟨ys, bs, b1, b2, b3⟩ := kb_run B (H := H) (U := um F M) (vs := []) (ds := []) (us := []) (zs := []) (es := []) (ws := []) .nil .nil rfl rfl .nil .nil I.kIn
    exact run_any G hr tk I b1 b2 (callM_sp S'.ms b3 q hP hX)⟩
/-! ### keywords -/
structure DenK (X : Cx) (kws : List Keyword) (t : AA) : Prop where
  run : ∀ (F : List Addr) (ρ : Rho) (M : Mem) (P : List D → Mem → Prop) (EX : XKA) (W : WX) (σ : L2.St) (H : Hp) (Q : List V → Hp → Prop), Sta X H F M σ ρ → Takes X W → t ρ M P EX →
    (∀ v d M' H', Step H M H' M' → MSt X.K H' F M' → DVs X.K H' (um F M') v d → P d M' → Q v H') → LX X H F M EX (fun cls d H' => W cls d σ H') →
    ∀ (pos : Pos) (pins : List (Addr × Obj)) (s : Shared), Inv X pins σ H s → wpAny (model X.prog X.w) X.A (evalAll ((backToKw pos (keywordEach kws X.env)).map (·.2))) (AP X pins σ Q) X.xe s
def KWv (X : Cx) (kws : List Keyword) : TA := fun σ H Q => ∀ (pos : Pos) (pins : List (Addr × Obj)) (s : Shared), Inv X pins σ H s → wpAny (model X.prog X.w) X.A (evalAll ((backToKw pos (keywordEach kws X.env)).map (·.2))) (AP X pins σ Q) X.xe s
theorem pk_kw {kws : List Keyword} : PK X kws (KWv X kws) := ⟨fun pos pins s _ _ _ I h => h pos pins s I⟩
theorem dk_nil : DenK X [] aNil := ⟨fun F ρ M P EX W σ H Q S tk h hP hX => fun pos pins s I => pk_nil.run pos pins s σ H Q I (hP [] [] M H (Step.refl H M) S.ms .nil h)⟩
theorem dk_cons {nm : Option Str} {kpos : Pos} {kws : List Keyword} {te : AE} (ha : DenE X e te) (hr : DenK X kws t) : DenK X (⟨nm, e, kpos⟩ :: kws) (aCons te t) :=
  ⟨fun F ρ M P EX W σ H Q S tk h hP hX => fun pos pins s I => (pk_cons (pe_ew (X := X)) (pk_kw (X := X))).run pos pins s σ H Q I
    (ha.run F ρ M _ EX W σ H _ S tk h (fun v x M1 H1 s1 m1 dv q =>
      hr.run F ρ M1 _ EX W σ H1 _ (S.step s1 m1) tk q (fun vs xs M2 H2 s2 m2 dvs p => hP _ _ M2 H2 (s1.trans s2) m2 (.cons (dv.step s2) dvs) p) (hX.step s1)) hX)⟩
/-- f(e, .., k = v, ..) -/
def aCallK (S : ASp) (g : List D → List D → List D) (n m : Nat) (t tk : AA) : AE := fun ρ M P EX => t ρ M (fun ds M1 => tk ρ M1 (fun es M2 => ds.length = n ∧ es.length = m ∧ CallM S (g ds es) M2 P EX) EX) EX
theorem de_callK {kws : List Keyword} {ks : List Str} {m' : Nat} (G : FnOk X.prog X.w X.K X.mg X.base (L2.CX X.prog X.w) k f fd ps (spOf X.K S)) (hr : Room k X.A) (hm : X.mg x = some (.ref f)) (hk : PySem.W.keepIn X.K (.ref f) = true) (B : KB X.K fd ps ks n m' g) (ha : DenA X (e :: es) t) (hkw : DenK X kws tk')
    (hg : Gl X x := by rfl) (hall : (backToKw pos (keywordEach kws X.env)).all (·.1.isSome) = true := by rfl) (hks : (backToKw pos (keywordEach kws X.env)).filterMap (·.1) = ks := by rfl)
    (hdb : (x == ("__debug__" : Str)) = false := by decide) (he : starEach (e :: es) X.env = (false, eval e X.env) :: starEach es X.env := by rfl)
    (hpl : ((backTo pos (starEach (e :: es) X.env)).any (·.1) || (backToKw pos (keywordEach kws X.env)).any (·.1.isNone)) = false := by rfl) :
    DenE X (.Call (.Name x p) (e :: es) kws pos) (aCallK S g n m' t tk') :=
  ⟨fun F ρ M P EX W σ H Q S' tk h hP hX => fun pins s I => by
    refine wpAny_Call_Name_kw (ld_glob I hg hm ?_ hdb)
    refine PySem.W.callWith_KW (h₀ := X.base) I.ok.mod.kin hk hall ?_ hpl he
    refine thn (ha.run F ρ M _ EX W σ H (fun vs H1 => ∃ ds M1, Step H M H1 M1 ∧ MSt X.K H1 F M1 ∧ DVs X.K H1 (um F M1) vs ds ∧ tk' ρ M1 (fun es M2 => ds.length = n ∧ es.length = m' ∧ CallM S (g ds es) M2 P EX) EX) S' tk h (fun vs ds M1 H1 s1 m1 dv q => ⟨ds, M1, s1, m1, dv, q⟩) hX pos pins s I) ?_
    rintro us s1 ⟨vs, H1, I1, r, ds, M1, st1, m1, dv, q⟩
    refine thn (hkw.run F ρ M1 _ EX W σ H1 (fun zs H2 => ∃ es M2, Step H1 M1 H2 M2 ∧ MSt X.K H2 F M2 ∧ DVs X.K H2 (um F M2) zs es ∧ ds.length = n ∧ es.length = m' ∧ CallM S (g ds es) M2 P EX) (S'.step st1 m1) tk q (fun vs ds M1 H1 s1 m1 dv q => ⟨ds, M1, s1, m1, dv, q⟩) (hX.step st1) pos pins s1 I1) ?_
    rintro ws s2 ⟨zs, H2, I2, rz, es', M2, st2, m2, dz, hl, hl2, q2⟩
    refine ⟨I2.kIn, ?_⟩
    rw [hks]
    obtain ⟨ys, bs, b1, b2, b3⟩ := kb_run B (dv.step st2) dz hl hl2 r rz I2.kIn
    exact run_any G hr tk I2 b1 b2 (callM_sp m2 b3 q2 (fun v d M' H' st mm dd p => hP v d M' H' ((st1.trans st2).trans st) mm dd p) (hX.step (st1.trans st2)))⟩

/-! ### instances -/
/-- an instance: of data that doesn't change, or in memory -/
inductive InsA (M : Mem) : D → Addr → List (Str × D) → Prop
  | fr {C : Addr} {fs : List (Str × D)} : InsA M (.obj C fs) C fs
  | mu {a C : Addr} {fs : List (Str × D)} : (a, MO.ins C fs) ∈ M → InsA M (.ref a) C fs
theorem InsA.inv {K : PySem.W.Frag} {H : Hp} {F : List Addr} {M : Mem} {d : D} {C : Addr} {fs : List (Str × D)} {v : V} (h : InsA M d C fs) (m : MSt K H F M) (dv : DV K H (um F M) v d) : ∃ a dx ws, v = .ref a ∧ H a = some (.ins C dx ws) ∧ DFs K H (um F M) ws fs := by
  cases h with
  | fr => cases dv with
    | obj h hn t => exact ⟨_, _, _, rfl, h, t⟩
  | mu hm =>
    cases dv
    obtain ⟨dx, ws, e1, e2⟩ := m.ok _ hm
    exact ⟨_, dx, ws, rfl, e1, e2⟩
def aFld (C : Addr) (f : Str) (ta : AE) : AE := fun ρ M P EX => ta ρ M (fun d M1 => ∃ fs v, InsA M1 d C fs ∧ fs.lookup f = some v ∧ P v M1) EX
theorem de_fld {fl : Str} (c1 : Cls X.K C) (c2 : NoAttr X.K C fl) (ha : DenE X o ta) (hb : attributeBase o fl X.env (eval o X.env) = eval o X.env := by rfl) : DenE X (.Attribute o fl pos) (aFld C fl ta) :=
  ⟨fun F ρ M P EX W σ H Q S tk h hP hX => (pe_fld (pe_ew (X := X)) hb).ew (ha.run F ρ M _ EX W σ H _ S tk h (fun v d M1 H1 s1 m1 dv q => by
    obtain ⟨fs, w, hi, hf, q⟩ := q
    obtain ⟨a, dx, ws, rfl, e1, e2⟩ := hi.inv m1 dv
    obtain ⟨y, e3, e4⟩ := e2.look hf
    exact ⟨a, C, dx, ws, y, rfl, e1, c1, c2, e3, hP y w M1 H1 s1 m1 e4 q⟩) hX)⟩
end
end Ab
set_option maxRecDepth 100000
set_option maxHeartbeats 2000000
/-! Ab5: methods, instances made, fields stored, errors raised, defs, comprehensions. -/
namespace Ab
open PySem L2 PyProof.Rows

section
variable {X : Cx} {k : Nat} {f C : Addr} {fd : FuncData} {ps : List Str} {S : ASp} {x m : Str} {p pos apos : Pos} {e o : Expr} {es : List Expr} {t tk' : AA} {ta te : AE} {n : Nat} {g : List D → List D → List D}
/-- o.m(e, .., k = v, ..) -/
def aMeth (C : Addr) (m : Str) (S : ASp) (g : List D → List D → List D) (n n2 : Nat) (ta : AE) (t tk : AA) : AE := fun ρ M P EX => ta ρ M (fun d M0 => (∃ fs, InsA M0 d C fs ∧ fs.lookup m = none) ∧
  t ρ M0 (fun ds M1 => tk ρ M1 (fun es M2 => (d :: ds).length = n ∧ es.length = n2 ∧ CallM S (g (d :: ds) es) M2 P EX) EX) EX) EX
theorem de_meth {pl : Sem Bool} (c : Cls X.K C) (hm : Meth X.K C m f) (G : FnOk X.prog X.w X.K X.mg X.base (L2.CX X.prog X.w) k f fd ps (spOf X.K S)) (hr : Room k X.A) (B : KB X.K fd ps [] n 0 g) (ho : DenE X o ta) (ha : DenA X (e :: es) t)
    (hst : starEach (e :: es) X.env = (false, eval e X.env) :: starEach es X.env := by rfl) (hpl : (backTo pos (starEach es X.env)).any (·.1) = false := by rfl)
    (ht : eval (.Call (.Attribute o m apos) (e :: es) [] pos) X.env = (do
        let ov ← eval o X.env
        standAt apos.atName
        let (f, first) ← holding [ov] (getMethod ov m pl)
        callWith pos f first (backTo pos (starEach (e :: es) X.env)) (backToKw pos (keywordEach [] X.env))) := by rfl) :
    DenE X (.Call (.Attribute o m apos) (e :: es) [] pos) (aMeth C m S g n 0 ta t aNil) :=
  ⟨fun F ρ M P EX W σ H Q S' tk h hP hX => fun pins s I => by
    refine PySem.W.methodCall_KW (pl := pl) ?_ ht
    refine thn (ho.run F ρ M _ EX W σ H (fun v H0 => ∃ d M0, Step H M H0 M0 ∧ MSt X.K H0 F M0 ∧ DV X.K H0 (um F M0) v d ∧ (∃ fs, InsA M0 d C fs ∧ fs.lookup m = none) ∧ t ρ M0 (fun ds M1 => (d :: ds).length = n ∧ 0 = 0 ∧ CallM S (g (d :: ds) []) M1 P EX) EX) S' tk h (fun v d M0 H0 s0 m0 dv q => ⟨d, M0, s0, m0, dv, q⟩) hX pins s I) ?_
    rintro u s0 ⟨v, H0, I0, rv, d, M0, st0, m0, dv, ⟨fs, hi, hl⟩, q⟩
    obtain ⟨a, dx, ws, rfl, e1, e2⟩ := hi.inv m0 dv
    obtain rfl : u = Value.ref a := rv
    refine getmeth_ok I0 e1 c hm (e2.look_none hl) ?_
    refine PySem.W.callWith_K (first := [.ref a]) (h₀ := X.base) I.ok.mod.kin hm.kp ?_ hst hpl
    refine thn (ha.run F ρ M0 _ EX W σ H0 (fun vs H1 => ∃ ds M1, Step H0 M0 H1 M1 ∧ MSt X.K H1 F M1 ∧ DVs X.K H1 (um F M1) vs ds ∧ (d :: ds).length = n ∧ CallM S (g (d :: ds) []) M1 P EX) (S'.step st0 m0) tk q (fun vs ds M1 H1 s1 m1 dv q => ⟨ds, M1, s1, m1, dv, q.1, q.2.2⟩) (hX.step st0) pos pins s0 I0) ?_
    rintro us s1 ⟨vs, H1, I1, r, ds, M1, st1, m1, dvs, hl2, q2⟩
    refine ⟨I1.kIn, ?_⟩
    have r2 : Vals (V.ref a :: vs) (Value.ref a :: us) := .cons rfl r
    obtain ⟨ys, bs, b1, b2, b3⟩ := kb_run B (DVs.cons (dv.step st1) dvs) (zs := []) (es := []) (ws := []) .nil hl2 rfl r2 .nil I1.kIn
    exact run_any G hr tk I1 b1 b2 (callM_sp m1 b3 q2 (fun v d M' H' st mm dd p => hP v d M' H' ((st0.trans st1).trans st) mm dd p) (hX.step (st0.trans st1)))⟩
theorem de_meth0 {pl : Sem Bool} (c : Cls X.K C) (hm : Meth X.K C m f) (G : FnOk X.prog X.w X.K X.mg X.base (L2.CX X.prog X.w) k f fd ps (spOf X.K S)) (hr : Room k X.A) (B : KB X.K fd ps [] 1 0 g) (ho : DenE X o ta)
    (ht : eval (.Call (.Attribute o m apos) [] [] pos) X.env = (do
        let ov ← eval o X.env
        standAt apos.atName
        let (f, first) ← holding [ov] (getMethod ov m pl)
        callWith pos f first (backTo pos (starEach [] X.env)) (backToKw pos (keywordEach [] X.env))) := by rfl) :
    DenE X (.Call (.Attribute o m apos) [] [] pos) (aMeth C m S g 1 0 ta aNil aNil) :=
  ⟨fun F ρ M P EX W σ H Q S' tk h hP hX => fun pins s I => by
    refine PySem.W.methodCall_KW (pl := pl) ?_ ht
    refine thn (ho.run F ρ M _ EX W σ H (fun v H0 => ∃ d M0, Step H M H0 M0 ∧ MSt X.K H0 F M0 ∧ DV X.K H0 (um F M0) v d ∧ (∃ fs, InsA M0 d C fs ∧ fs.lookup m = none) ∧ CallM S (g [d] []) M0 P EX) S' tk h (fun v d M0 H0 s0 m0 dv q => ⟨d, M0, s0, m0, dv, q.1, q.2.2.2⟩) hX pins s I) ?_
    rintro u s0 ⟨v, H0, I0, rv, d, M0, st0, m0, dv, ⟨fs, hi, hl⟩, q⟩
    obtain ⟨a, dx, ws, rfl, e1, e2⟩ := hi.inv m0 dv
    obtain rfl : u = Value.ref a := rv
    refine getmeth_ok I0 e1 c hm (e2.look_none hl) ?_
    refine PySem.W.callWith_K0 (first := [.ref a]) I0.kIn hm.kp ?_
    have r2 : Vals [V.ref a] [Value.ref a] := .cons rfl .nil
    obtain ⟨ys, bs, b1, b2, b3⟩ := kb_run B (DVs.one dv) (zs := []) (es := []) (ws := []) .nil rfl rfl r2 .nil I0.kIn
    exact run_any G hr tk I0 b1 b2 (callM_sp m0 b3 q (fun v d M' H' st mm dd p => hP v d M' H' (st0.trans st) mm dd p) (hX.step st0))⟩

/-! ### C(e, .., k = v, ..) -/
/-- the new instance, kept as data that doesn't change any more -/
def aMake (C : Addr) (S : ASp) (g : List D → List D → List D) (n n2 : Nat) (t tk : AA) : AE := fun ρ M P EX => t ρ M (fun ds M1 => tk ρ M1 (fun es M2 => ds.length = n ∧ es.length = n2 ∧ ∀ x, x ∉ dom M2 →
  CallM S (g (.ref x :: ds) es) ((x, MO.ins C []) :: M2) (fun v M3 => v = .non ∧ ∃ fs Mr, Split M3 [(x, MO.ins C fs)] Mr ∧ P (.obj C fs) Mr) (fun e M3 => ∃ Mr, (∃ o, Split M3 [(x, o)] Mr) ∧ EX e Mr)) EX) EX
/-- .. as one that may change -/
def aMakeM (C : Addr) (S : ASp) (g : List D → List D → List D) (n n2 : Nat) (t tk : AA) : AE := fun ρ M P EX => t ρ M (fun ds M1 => tk ρ M1 (fun es M2 => ds.length = n ∧ es.length = n2 ∧ ∀ x, x ∉ dom M2 →
  CallM S (g (.ref x :: ds) es) ((x, MO.ins C []) :: M2) (fun v M3 => v = .non ∧ P (.ref x) M3) (fun e M3 => ∃ Mr, (∃ o, Split M3 [(x, o)] Mr) ∧ EX e Mr)) EX) EX
theorem step_inst {H : Hp} {M : Mem} {x dx : Addr} {o o2 : HO} {mo : MO} (hx : H x = none) (hd : H dx = none) : Step H M (upd (upd H dx o) x o2) ((x, mo) :: M) :=
  ⟨fun b u _ e => by rw [upd_ne (ne_of_none e hx), upd_ne (ne_of_none e hd)]; exact e, fun b hb => by
    rcases List.mem_cons.mp hb with h | h
    · rw [h]; exact Or.inr hx
    · exact Or.inl h⟩
theorem mst_inst {K : PySem.W.Frag} {H : Hp} {F : List Addr} {M : Mem} {x dx C : Addr} (m : MSt K H F M) (hx : H x = none) (hd : H dx = none) : MSt K (upd (upd H dx (.own x)) x (.ins C dx [])) F ((x, MO.ins C []) :: M) := by
  have st := step_inst (M := M) (o := .own x) (o2 := .ins C dx []) (mo := MO.ins C []) hx hd
  refine ⟨List.nodup_cons.mpr ⟨fun z => m.notin hx (List.mem_append_left _ z), m.nd⟩, fun p hp => ?_, fun b hb => ⟨fun z => ?_, ?_⟩⟩
  · rcases List.mem_cons.mp hp with h | h
    · rw [h]; exact ⟨dx, [], upd_same, .nil⟩
    · obtain ⟨u, e⟩ := (m.ok p h).there
      exact (m.ok p h).step (by rw [upd_ne (ne_of_none e hx), upd_ne (ne_of_none e hd)]) st
  · rcases List.mem_cons.mp z with h | h
    · rw [h] at hb; exact m.notin hx (List.mem_append_right _ hb)
    · exact (m.fr b hb).1 h
  · obtain ⟨u, e⟩ := (m.fr b hb).2
    exact ⟨u, by rw [upd_ne (ne_of_none e hx), upd_ne (ne_of_none e hd)]; exact e⟩
/-- an entry is frozen or forgotten -/
theorem split_one {K : PySem.W.Frag} {H : Hp} {F : List Addr} {M Mr : Mem} {x : Addr} {o : MO} (m : MSt K H F M) (h : Split M [(x, o)] Mr) : MSt K H F Mr ∧ Step H M H Mr ∧ MoOk K H (um F Mr) x o ∧ x ∉ um F Mr := by
  obtain ⟨n1, n2, n3⟩ := h.nd m.nd
  have sub : ∀ a ∈ um F Mr, a ∈ um F M := fun a ha => (List.mem_append.mp ha).elim (fun z => List.mem_append_left _ (h.dm.mpr (Or.inr z))) fun z => List.mem_append_right _ z
  refine ⟨⟨n2, fun p hp => (m.ok p (h.mem.mpr (Or.inr hp))).anti sub, fun b hb => ⟨fun z => (m.fr b hb).1 (h.dm.mpr (Or.inr z)), (m.fr b hb).2⟩⟩, ⟨fun _ _ _ e => e, fun b hb => Or.inl (h.dm.mpr (Or.inr hb))⟩, (m.ok _ (h.mem.mpr (Or.inl List.mem_cons_self))).anti sub, fun z => ?_⟩
  rcases List.mem_append.mp z with z | z
  · exact n3 x (by simp [dom]) z
  · exact (m.fr x z).1 (h.dm.mpr (Or.inl (by simp [dom])))
theorem MoOk.obj {K : PySem.W.Frag} {H : Hp} {U : List Addr} {x C : Addr} {fs : List (Str × D)} (h : MoOk K H U x (.ins C fs)) (hn : x ∉ U) : DV K H U (.ref x) (.obj C fs) := by
  obtain ⟨dx, ws, e1, e2⟩ := h
  exact .obj e1 hn e2
theorem MoOk.lst' {K : PySem.W.Frag} {H : Hp} {U : List Addr} {x : Addr} {ds : List D} (h : MoOk K H U x (.lst ds)) (hn : x ∉ U) : DV K H U (.ref x) (.lst ds) := by
  obtain ⟨ws, e1, e2⟩ := h
  exact .lst e1 hn e2
theorem XV.anti {K : PySem.W.Frag} {H : Hp} {U U' : List Addr} {x : Exc} {cls : Value} {d : Option Addr} (f : ∀ a ∈ U', a ∈ U) (h : XV K H U x cls d) : XV K H U' x cls d := by
  obtain ⟨e1, e2⟩ := h
  refine ⟨e1, ?_⟩
  cases q : x.fs with
  | none => rw [q] at e2; exact e2
  | some fs =>
    rw [q] at e2
    obtain ⟨a, ws, y1, y2, y3, y4⟩ := e2
    exact ⟨a, ws, y1, y2, fun z => y3 (f _ z), y4.anti f⟩
/-- what a making over data asks, for what its run asks -/
theorem make_sp {F : List Addr} {M : Mem} {H : Hp} {vs : List V} {ds : List D} {P : AK} {EX : XKA} {Q : VK} {E : XK} (mt : Bool) (hm : MSt X.K H F M) (dv : DVs X.K H (um F M) vs ds)
    (h : ∀ x, x ∉ dom M → CallM S (.ref x :: ds) ((x, MO.ins C []) :: M) (fun v M3 => v = .non ∧ (if mt = true then P (.ref x) M3 else ∃ fs Mr, Split M3 [(x, MO.ins C fs)] Mr ∧ P (.obj C fs) Mr)) (fun e M3 => ∃ Mr, (∃ o, Split M3 [(x, o)] Mr) ∧ EX e Mr))
    (hP : ∀ v d M' H', Step H M H' M' → MSt X.K H' F M' → DV X.K H' (um F M') v d → P d M' → Q v H') (hX : LX X H F M EX E) :
    ∀ x dx, H x = none → H dx = none → dx ≠ x → spOf X.K S (.ref x :: vs) (upd (upd H dx (.own x)) x (.ins C dx [])) (fun v H2 => v = .non ∧ Q (.ref x) H2) E := fun x dx hx hd ne => by
  have st := step_inst (M := M) (o := .own x) (o2 := .ins C dx []) (mo := MO.ins C []) hx hd
  have m2 := mst_inst (C := C) (dx := dx) hm hx hd
  refine callM_sp m2 (.cons (.ref x) (dv.step st)) (h x fun z => hm.notin hx (List.mem_append_left _ z)) (fun v d M' H' s' m' dv' q => ?_) fun e M' cls dd H' s' m' xv q => ?_
  · obtain ⟨rfl, q⟩ := q
    refine ⟨dv'.non', ?_⟩
    cases mt with
    | true =>
      rw [if_pos rfl] at q
      exact hP _ _ M' H' (st.trans s') m' (.ref x) q
    | false =>
      rw [if_neg Bool.false_ne_true] at q
      obtain ⟨fs, Mr, sp, q⟩ := q
      obtain ⟨m3, s3, o3, n3⟩ := split_one m' sp
      exact hP _ _ Mr H' ((st.trans s').trans s3) m3 (o3.obj n3) q
  · obtain ⟨Mr, ⟨o, sp⟩, q⟩ := q
    obtain ⟨m3, s3, o3, n3⟩ := split_one m' sp
    exact hX e Mr cls dd H' ((st.trans s').trans s3) m3 (xv.anti fun a ha => (List.mem_append.mp ha).elim (fun z => List.mem_append_left _ (sp.dm.mpr (Or.inr z))) fun z => List.mem_append_right _ z) q
/-- how the arguments of a making come to the parameters: the new instance ahead -/
structure KM (K : PySem.W.Frag) (fd : FuncData) (ps : List Str) (ks : List Str) (n m : Nat) (g : List D → List D → List D) : Prop where
  to : ∃ (gV : List V → List V → List V) (gU : List Value → List Value → List Value), (∀ (s : Shared) (x : Addr) (us ws : List Value), K.In s.heap → us.length = n → ws.length = m → BindsTo s fd ⟨.ref x :: us, ks.zip ws⟩ (ps.zip (.ref x :: gU us ws))) ∧
    (∀ (vs zs : List V) (us ws : List Value), vs.length = n → zs.length = m → Vals vs us → Vals zs ws → Vals (gV vs zs) (gU us ws)) ∧
    (∀ (H : Hp) (U : List Addr) (vs zs : List V) (ds es : List D), vs.length = n → zs.length = m → DVs K H U vs ds → DVs K H U zs es → DVs K H U (gV vs zs) (g ds es))
def aMk (mt : Bool) (C : Addr) (S : ASp) (g : List D → List D → List D) (n n2 : Nat) (t tk : AA) : AE := fun ρ M P EX => t ρ M (fun ds M1 => tk ρ M1 (fun es M2 => ds.length = n ∧ es.length = n2 ∧ ∀ x, x ∉ dom M2 →
  CallM S (.ref x :: g ds es) ((x, MO.ins C []) :: M2) (fun v M3 => v = .non ∧ (if mt = true then P (.ref x) M3 else ∃ fs Mr, Split M3 [(x, MO.ins C fs)] Mr ∧ P (.obj C fs) Mr)) (fun e M3 => ∃ Mr, (∃ o, Split M3 [(x, o)] Mr) ∧ EX e Mr)) EX) EX
theorem de_make {kws : List Keyword} {ks : List Str} {n2 : Nat} (mt : Bool) (N : Mk X.K C f) (G : FnOk X.prog X.w X.K X.mg X.base (L2.CX X.prog X.w) k f fd ps (spOf X.K S)) (hr : Room (k + 1) X.A) (hm : X.mg x = some (.ref C)) (B : KM X.K fd ps ks n n2 g) (ha : DenA X (e :: es) t) (hkw : DenK X kws tk')
    (hg : Gl X x := by rfl) (hall : (backToKw pos (keywordEach kws X.env)).all (·.1.isSome) = true := by rfl) (hks : (backToKw pos (keywordEach kws X.env)).filterMap (·.1) = ks := by rfl)
    (hdb : (x == ("__debug__" : Str)) = false := by decide) (he : starEach (e :: es) X.env = (false, eval e X.env) :: starEach es X.env := by rfl)
    (hpl : ((backTo pos (starEach (e :: es) X.env)).any (·.1) || (backToKw pos (keywordEach kws X.env)).any (·.1.isNone)) = false := by rfl) :
    DenE X (.Call (.Name x p) (e :: es) kws pos) (aMk mt C S g n n2 t tk') :=
  ⟨fun F ρ M P EX W σ H Q S' tk h hP hX => fun pins s I => by
    refine wpAny_Call_Name_kw (ld_glob I hg hm ?_ hdb)
    refine PySem.W.callWith_KW (h₀ := X.base) I.ok.mod.kin N.kp hall ?_ hpl he
    refine thn (ha.run F ρ M _ EX W σ H (fun vs H1 => ∃ ds M1, Step H M H1 M1 ∧ MSt X.K H1 F M1 ∧ DVs X.K H1 (um F M1) vs ds ∧ _) S' tk h (fun vs ds M1 H1 s1 m1 dv q => ⟨ds, M1, s1, m1, dv, q⟩) hX pos pins s I) ?_
    rintro us s1 ⟨vs, H1, I1, r, ds, M1, st1, m1, dv, q⟩
    refine thn (hkw.run F ρ M1 _ EX W σ H1 (fun zs H2 => ∃ es M2, Step H1 M1 H2 M2 ∧ MSt X.K H2 F M2 ∧ DVs X.K H2 (um F M2) zs es ∧ _) (S'.step st1 m1) tk q (fun vs ds M1 H1 s1 m1 dv q => ⟨ds, M1, s1, m1, dv, q⟩) (hX.step st1) pos pins s1 I1) ?_
    rintro ws s2 ⟨zs, H2, I2, rz, es', M2, st2, m2, dz, hl, hl2, q2⟩
    refine ⟨I2.kIn, ?_⟩
    rw [hks]
    obtain ⟨gV, gU, b1, b2, b3⟩ := B.to
    have l1 : vs.length = n := dv.length.trans hl
    have l2 : zs.length = n2 := dz.length.trans hl2
    exact run_mk N G hr tk I2 (fun t' y kin => b1 t' y us ws kin (r.length.symm.trans l1) (rz.length.symm.trans l2)) (b2 _ _ _ _ l1 l2 r rz)
      (make_sp mt m2 (b3 H2 _ _ _ _ _ l1 l2 (dv.step st2) dz) q2 (fun v d M' H' st mm dd p => hP v d M' H' ((st1.trans st2).trans st) mm dd p) (hX.step (st1.trans st2)))⟩

/-! ### memory changed at a place -/
inductive PutM : Mem → Addr → MO → MO → Mem → Prop
  | here {a : Addr} {o o' : MO} {r : Mem} : PutM ((a, o) :: r) a o o' ((a, o') :: r)
  | there {a : Addr} {o o' : MO} {r r' : Mem} {q : Addr × MO} : PutM r a o o' r' → PutM (q :: r) a o o' (q :: r')
theorem PutM.dm : ∀ {M M' : Mem} {a : Addr} {o o' : MO}, PutM M a o o' M' → dom M' = dom M
  | _, _, _, _, _, .here => rfl
  | _, _, _, _, _, .there h => by simp only [dom, List.map_cons]; congr 1; exact h.dm
theorem PutM.old : ∀ {M M' : Mem} {a : Addr} {o o' : MO}, PutM M a o o' M' → (a, o) ∈ M
  | _, _, _, _, _, .here => List.mem_cons_self
  | _, _, _, _, _, .there h => List.mem_cons_of_mem _ h.old
theorem PutM.mem : ∀ {M M' : Mem} {a : Addr} {o o' : MO}, PutM M a o o' M' → (dom M).Nodup → ∀ q ∈ M', q = (a, o') ∨ (q ∈ M ∧ q.1 ≠ a)
  | _, _, a, _, _, .here, nd, q, hq => by
    rcases List.mem_cons.mp hq with h | h
    · exact Or.inl h
    · refine Or.inr ⟨List.mem_cons_of_mem _ h, fun z => ?_⟩
      have n := (List.nodup_cons.mp nd).1
      exact n (by rw [← z]; exact List.mem_map_of_mem (f := (·.1)) h)
  | _, _, a, _, _, .there (q := q0) h, nd, q, hq => by
    obtain ⟨n1, n2⟩ := List.nodup_cons.mp nd
    rcases List.mem_cons.mp hq with z | z
    · subst z
      refine Or.inr ⟨List.mem_cons_self, fun e => n1 ?_⟩
      show q.1 ∈ _
      rw [e]
      exact List.mem_map_of_mem (f := (·.1)) h.old
    · rcases h.mem n2 q z with y | y
      · exact Or.inl y
      · exact Or.inr ⟨List.mem_cons_of_mem _ y.1, y.2⟩
theorem PutM.step {M M' : Mem} {a : Addr} {o o' : MO} {H : Hp} {ho : HO} (h : PutM M a o o' M') : Step H M (upd H a ho) M' :=
  ⟨fun b u hb e => by rw [upd_ne (fun z => hb (by rw [z]; exact List.mem_map_of_mem (f := (·.1)) h.old))]; exact e, fun b hb => Or.inl (by rw [h.dm] at hb; exact hb)⟩
theorem PutM.mst {K : PySem.W.Frag} {M M' : Mem} {a : Addr} {o o' : MO} {H : Hp} {F : List Addr} {ho : HO} (h : PutM M a o o' M') (m : MSt K H F M) (ok : MoOk K (upd H a ho) (um F M') a o') : MSt K (upd H a ho) F M' := by
  refine ⟨by rw [h.dm]; exact m.nd, fun q hq => ?_, fun b hb => ?_⟩
  · rcases h.mem m.nd q hq with z | ⟨z1, z2⟩
    · rw [z]; exact ok
    · exact (m.ok q z1).step (upd_ne z2) h.step
  · obtain ⟨e1, u, e2⟩ := m.fr b hb
    refine ⟨by rw [h.dm]; exact e1, u, ?_⟩
    rw [upd_ne (fun z => e1 (by rw [z]; exact List.mem_map_of_mem (f := (·.1)) h.old))]
    exact e2

/-! ### o.f = e -/
def putD (f : Str) (d : D) : List (Str × D) → List (Str × D)
  | [] => [(f, d)]
  | (x, y) :: r => if x = f then (x, d) :: r else (x, y) :: putD f d r
theorem DFs.put {K : PySem.W.Frag} {H : Hp} {U : List Addr} {fl : Str} {v : V} {d : D} (h : DV K H U v d) : ∀ {vs : List (Str × V)} {ds : List (Str × D)}, DFs K H U vs ds → DFs K H U (putF fl v vs) (putD fl d ds)
  | _, _, .nil => .cons h .nil
  | _, _, .cons (x := x) a t => by
    unfold putF putD
    by_cases e : x = fl
    · rw [if_pos e, if_pos e]; exact .cons h t
    · rw [if_neg e, if_neg e]; exact .cons a (DFs.put h t)
theorem DFs.length {K : PySem.W.Frag} {H : Hp} {U : List Addr} {vs : List (Str × V)} {ds : List (Str × D)} (h : DFs K H U vs ds) : vs.length = ds.length := by
  have := congrArg List.length h.names
  simpa using this
def aSetF (C : Addr) (fl : Str) (ta te : AE) : AS := fun ρ M k => te ρ M (fun y M1 => ta ρ M1 (fun d M2 => ∃ a fs M3, d = .ref a ∧ PutM M2 a (.ins C fs) (.ins C (putD fl y fs)) M3 ∧ fs.length < 1000 ∧ k.nx ρ M3) (fun x M' => k.ex x ρ M')) (fun x M' => k.ex x ρ M')
theorem ds_fld {fl : Str} {o value : Expr} {tv : AE} {pos' : Pos} (c1 : Cls X.K C) (c2 : NoAttr X.K C fl) (ho : DenE X o ta) (hv : DenE X value tv) (hs : swapsWith value (some (.Attribute o fl pos')) pos.line X.env = pure false := by rfl) : DenS X (.Assign [.Attribute o fl pos'] value pos) (aSetF C fl ta tv) :=
  ⟨fun F ρ M k W σ H D S tk h L => fun pins s I => (ps_fld (pe_ew (X := X)) (pe_ew (X := X)) hs).run pins s σ H D I
    (hv.run F ρ M _ _ W σ H _ S tk h (fun w y M1 H1 s1 m1 dw q => ho.run F ρ M1 _ _ W σ H1 _ (S.step s1 m1) tk q (fun v d M2 H2 s2 m2 dv q2 => by
      obtain ⟨a, fs, M3, rfl, hp, hl, q2⟩ := q2
      cases dv
      obtain ⟨dx, ws, e1, e2⟩ := m2.ok _ hp.old
      refine ⟨a, C, dx, ws, rfl, e1, c1, c2, by rw [e2.length]; exact hl, ?_⟩
      have st := hp.step (H := H2) (ho := .ins C dx (putF fl w ws))
      have m3 := hp.mst (ho := .ins C dx (putF fl w ws)) m2 ⟨dx, _, upd_same, DFs.put ((dw.step s2).step st) (e2.step st)⟩
      exact L.nx ρ M3 σ _ ((s1.trans s2).trans st) (S.step ((s1.trans s2).trans st) m3) q2) ((L.step s1).lx (S.step s1 m1))) (L.lx S))⟩

/-! ### raise -/
def aRaise (x : Exc) : AS := fun ρ M k => k.ex x ρ M
theorem ds_raise {bmB : List Value} {B newId initId : String} {y msg : Str} {j : Nat} {p2 pos2 : Pos} (hc : X.calm = true) (Fb : ExcBaseFacts B newId initId bmB) (q : PySem.W.excIn X.K C bmB newId = true) (gC : X.mg y = some (.ref C)) (kC : PySem.W.keepIn X.K (.ref C) = true) (r : Raises X (.ref C)) (hg : Gl X y := by rfl)
    (hdb : (y == ("__debug__" : Str)) = false := by decide) : DenS X (.Raise (some (.Call (.Name y p) [.Constant (.str msg) j p2] [] pos)) none pos2) (aRaise ⟨C, none⟩) :=
  ⟨fun F ρ M k W σ H D S tk h L => fun pins s I => (ps_raise hc tk (pmk_own Fb q gC kC r hg hdb)).run pins s σ H D I (L.ex ⟨C, none⟩ ρ M _ _ σ H (Step.refl H M) S ⟨rfl, rfl⟩ h)⟩

/-! ### a def keeps its promise -/
/-- memory with less in it -/
def Less (M1 M : Mem) : Prop := M1.Sublist M
theorem Less.refl {M : Mem} : Less M M := List.Sublist.refl M
theorem Less.step {M1 M : Mem} (l : Less M1 M) {H : Hp} : Step H M H M1 := ⟨fun _ _ _ e => e, fun b hb => Or.inl ((l.map _).subset hb)⟩
theorem Less.um {M1 M : Mem} (l : Less M1 M) {F : List Addr} : ∀ a ∈ um F M1, a ∈ um F M := fun a ha =>
  (List.mem_append.mp ha).elim (fun z => List.mem_append_left _ ((l.map _).subset z)) fun z => List.mem_append_right _ z
theorem Less.mst {K : PySem.W.Frag} {M1 M : Mem} {H : Hp} {F : List Addr} (l : Less M1 M) (m : MSt K H F M) : MSt K H F M1 :=
  ⟨(l.map _).nodup m.nd, fun p hp => (m.ok p (l.subset hp)).anti l.um, fun b hb => ⟨fun z => (m.fr b hb).1 ((l.map _).subset z), (m.fr b hb).2⟩⟩
/-- behind a def: memory may be forgotten -/
def retK (P : AK) (EX : XKA) : KE := ⟨fun _ M => ∃ M1, Less M1 M ∧ P .non M1, fun d M => ∃ M1, Less M1 M ∧ P d M1, fun _ _ => False, fun _ _ => False, fun x _ M => ∃ M1, Less M1 M ∧ EX x M1⟩
def startA (N : List Str) (ds : List D) : Rho := ds.map some ++ List.replicate (N.length - ds.length) none
theorem start_sl {K : PySem.W.Frag} {H : Hp} {U : List Addr} {N : List Str} {vs : List V} {ds : List D} (h : DVs K H U vs ds) : SlOk K H U (L2.start N vs) (startA N ds) := by
  unfold L2.start startA
  refine ⟨by simp [h.length], fun i d e => ?_⟩
  by_cases hi : i < ds.length
  · rw [List.getElem?_append_left (by simpa using hi), List.getElem?_map] at e
    cases q : ds[i]? with
    | none => rw [q] at e; cases e
    | some d' =>
      rw [q] at e
      cases e
      obtain ⟨v, e1, e2⟩ := h.get q
      have hv : i < vs.length := by rw [h.length]; exact hi
      exact ⟨v, by rw [List.getElem?_append_left (by simpa using hv), List.getElem?_map, e1]; rfl, e2⟩
  · rw [List.getElem?_append_right (by simpa using hi), List.getElem?_replicate] at e
    split at e <;> cases e
theorem afn {P : Program} {w : World} {K : PySem.W.Frag} {mg : Str → Option Value} {base : Heap} {nm qual : Str} {params : Arguments} {body : List Stmt} {scope : Scope} {dvs : List V} {kws : List (Str × V)} {f : Addr} {fd : FuncData} {N ps : List Str} {k : Nat} {S : ASp} {t : AS}
    (Fd : FunD K nm qual params body scope dvs kws f fd) (Sc : FnScope N ps scope) (len : ∀ ds M P EX, S ds M P EX → ds.length = ps.length)
    (den : ∀ (cdv : Value) (A : Around) (outer : List Env) (s : Shared) (H : Hp) (E : XK), Room k (A.deeper (envOfC qual scope s.heap.objs.size f cdv)) → DenB (cxOf (L2.CX P w) P w K mg base N qual scope f cdv A outer s H E) body t)
    (vc : ∀ ds M P EX, S ds M P EX → t (startA N ds) M (retK P EX)) : FnOk P w K mg base (L2.CX P w) (k + 1) f fd ps (spOf K S) := by
  refine Fd.ok Sc (fun vs H Q E h => ?_) fun cdv A outer s H vs Q E hr h => ⟨BW _ body, pss_bw, ?_⟩
  · obtain ⟨F, ds, M, P', EX, dv, _, q, _⟩ := h
    exact dv.length.trans (len _ _ _ _ q)
  · obtain ⟨F, ds, M, P', EX, dv, m, q, hP, hX⟩ := h
    have tk : Takes (cxOf (L2.CX P w) P w K mg base N qual scope f cdv A outer s H E) (fun cls d _ H' => E cls d H') := takes_of rfl rfl rfl rfl
    refine (den cdv A outer s H E hr).run F _ M _ _ _ H _ ⟨start_sl dv, m⟩ tk (vc ds M P' EX q) ⟨fun ρ' M' σ' H' st S' z => ?_, fun v d M' H' st m' dv' z => ?_, fun _ _ _ _ _ _ z => z.elim, fun _ _ _ _ _ _ z => z.elim, fun x ρ' M' cls d σ' H' st S' xv z => ?_⟩
    · obtain ⟨M1, l, z⟩ := z
      exact hP _ _ M1 H' (st.trans l.step) (l.mst S'.ms) .non z
    · obtain ⟨M1, l, z⟩ := z
      exact hP _ _ M1 H' (st.trans l.step) (l.mst m') (dv'.anti l.um) z
    · obtain ⟨M1, l, z⟩ := z
      exact hX x M1 cls d H' (st.trans l.step) (l.mst S'.ms) (xv.anti l.um) z
end
end Ab
set_option maxRecDepth 100000
set_option maxHeartbeats 2000000
/-! Ab6: list comprehensions. -/
namespace Ab
open PySem L2 PyProof.Rows

def noX : XKA := fun _ _ => False
def unS : Rho → Nat → Rho
  | [], _ => []
  | _ :: r, 0 => none :: r
  | a :: r, n + 1 => a :: unS r n
theorem unS_set : ∀ (ρ : Rho) (i : Nat), unS ρ i = ρ.set i none
  | [], _ => rfl
  | _ :: _, 0 => rfl
  | a :: r, n + 1 => by
    show a :: unS r n = _
    rw [unS_set r n]; rfl
def wipeA (ρ : Rho) : List Nat → Rho
  | [] => ρ
  | v :: vs => unS (wipeA ρ vs) v
theorem SlOk.wipe {K : PySem.W.Frag} {H : Hp} {U : List Addr} {σ : L2.St} {ρ : Rho} (h : SlOk K H U σ ρ) : ∀ vs : List Nat, SlOk K H U (L2.wipe σ vs) (wipeA ρ vs)
  | [] => h
  | v :: vs => by
    show SlOk K H U ((L2.wipe σ vs).set v none) (unS (wipeA ρ vs) v)
    rw [unS_set]
    exact (SlOk.wipe h vs).unset v
theorem wipe_in {σ : L2.St} {i : Nat} : ∀ {vs : List Nat}, i ∈ vs → i < σ.length → (L2.wipe σ vs)[i]? = some none
  | [], h, _ => by cases h
  | v :: vs, h, hl => by
    show ((L2.wipe σ vs).set v none)[i]? = some none
    by_cases e : v = i
    · subst e
      exact List.getElem?_set_self (by rw [wipe_length]; exact hl)
    · rw [List.getElem?_set_ne e]
      rcases List.mem_cons.mp h with z | z
      · exact absurd z.symm e
      · exact wipe_in z hl
/-- what a target of the block's own names leaves -/
theorem wipe_eq {σ σ2 : L2.St} {vs ws : List Nat} (h : OutEq ws (L2.wipe σ vs) σ2) (hs : ∀ i ∈ ws, i ∈ vs) : L2.wipe σ2 vs = L2.wipe σ vs := by
  have hl : σ2.length = σ.length := by rw [h.1, wipe_length]
  apply List.ext_getElem?
  intro i
  by_cases hi : i ∈ vs
  · by_cases hlt : i < σ.length
    · rw [wipe_in hi hlt, wipe_in hi (by rw [hl]; exact hlt)]
    · rw [List.getElem?_eq_none (by rw [wipe_length]; omega), List.getElem?_eq_none (by rw [wipe_length]; omega)]
  · rw [wipe_out hi]
    exact h.2 i fun z => hi (hs i z)

/-- a clause's tests -/
structure DenTs (X : Cx) (ifs : List Expr) (t : AT) : Prop where
  run : ∀ (F : List Addr) (ρ : Rho) (M : Mem) (P : Bool → Mem → Prop) (EX : XKA) (W : WX) (σ : L2.St) (H : Hp) (Q : Bool → Hp → Prop), Sta X H F M σ ρ → Takes X W → t ρ M P EX →
    (∀ b M' H', Step H M H' M' → MSt X.K H' F M' → P b M' → Q b H') → LX X H F M EX (fun cls d H' => W cls d σ H') → ∀ (pins : List (Addr × Obj)) (s : Shared), Inv X pins σ H s →
    wpAny (model X.prog X.w) X.A (forIn ifs true fun c r => if r = true then do let ok ← isTrue c X.env (eval c X.env); pure (ForInStep.yield ok) else pure (ForInStep.yield r)) (TP X pins σ Q) X.xe s
def aYes : AT := fun _ M P _ => P true M
section
variable {X : Cx}
theorem dts_nil : DenTs X [] aYes := ⟨fun F ρ M P EX W σ H Q S tk h hP hX => fun pins s I => pts_nil.run pins s σ H Q I (hP true M H (Step.refl H M) S.ms h)⟩
theorem dts_one {c : Expr} {t : AT} (h : DenT X c t) : DenTs X [c] t := ⟨fun F ρ M P EX W σ H Q S tk q hP hX => fun pins s I => (pts_one (pt_tw (X := X))).run pins s σ H Q I (h.run F ρ M P EX W σ H Q S tk q hP hX)⟩

/-- the turns of a comprehension over items: what is made so far -/
def LcA (vs : List Nat) (g : AG) (tt : AT) (te : AE) (xs : List D) (ρ : Rho) (M : Mem) (P : List D → Mem → Prop) : Prop := ∃ J : Nat → List D → Mem → Prop, J 0 [] M ∧
  (∀ i d acc M', xs[i]? = some d → J i acc M' → g d (wipeA ρ vs) M' (fun ρ2 M2 => tt ρ2 M2 (fun b M3 => (b = true → te ρ2 M3 (fun y M4 => acc.length < 100000 ∧ J (i + 1) (acc ++ [y]) M4) noX) ∧ (b = false → J (i + 1) acc M3)) noX)) ∧
  ∀ acc M', J xs.length acc M' → P acc M'
/-- .. one by one -/
def lcR (vs : List Nat) (g : AG) (tt : AT) (te : AE) (ρ : Rho) (P : List D → Mem → Prop) : List D → List D → Mem → Prop
  | [], acc, M => P acc M
  | d :: r, acc, M => g d (wipeA ρ vs) M (fun ρ2 M2 => tt ρ2 M2 (fun b M3 => (b = true → te ρ2 M3 (fun y M4 => acc.length < 100000 ∧ lcR vs g tt te ρ P r (acc ++ [y]) M4) noX) ∧ (b = false → lcR vs g tt te ρ P r acc M3)) noX)
theorem LcA.turns {vs : List Nat} {g : AG} {tt : AT} {te : AE} {xs : List D} {ρ : Rho} {M : Mem} {P : List D → Mem → Prop} (h : lcR vs g tt te ρ P xs [] M) : LcA vs g tt te xs ρ M P := by
  refine ⟨fun i acc M => lcR vs g tt te ρ P (xs.drop i) acc M, h, fun i d acc M' e q => ?_, fun acc M' q => ?_⟩
  · have e2 : xs.drop i = d :: xs.drop (i + 1) := by
      obtain ⟨hl, e3⟩ := List.getElem?_eq_some_iff.mp e
      rw [List.drop_eq_getElem_cons hl, e3]
    have q2 : lcR vs g tt te ρ P (xs.drop i) acc M' := q
    rw [e2] at q2
    exact q2
  · have q2 : lcR vs g tt te ρ P (xs.drop xs.length) acc M' := q
    rw [List.drop_length] at q2
    exact q2
/-- a comprehension's contexts -/
def Blk (X : Cx) (scope : Scope) (p : Cx → Prop) : Prop := ∀ (s : Shared) (H : Hp) (C : Addr) (cl : List (Str × Addr)) (fp : List Addr), p (X.blk s H scope (compEnvC scope cl C X.env) fp)
def aLcL (vs : List Nat) (ai : AI) (g : AG) (tt : AT) (te : AE) (R : List D → Mem → AK → Prop) : AE := fun ρ M P EX => ai ρ M (fun xs M1 => LcA vs g tt te xs ρ M1 (fun acc M2 => R acc M2 P)) EX
/-- what is made of the list: data, or an object in memory -/
def rFro : List D → Mem → AK → Prop := fun acc M P => P (.lst acc) M
def rMut : List D → Mem → AK → Prop := fun acc M P => ∀ q, q ∉ dom M → P (.ref q) (M ++ [(q, .lst acc)])
theorem takes_no {X' : Cx} : Takes X' (fun _ _ _ _ => False) := fun u s' ⟨a, B, sI, pins, σ, H, cls, d, e, I, nb, up, sky, na, os, ag, w⟩ => w.elim
theorem lx_no {X' : Cx} {H : Hp} {F : List Addr} {M : Mem} {G : XK} : LX X' H F M noX G := fun _ _ _ _ _ _ _ _ h => h.elim
theorem lc_ok {elt tg iter : Expr} {ifs : List Expr} {scope : Scope} {vs ws : List Nat} {ai : AI} {g : AG} {tt : AT} {te : AE} (b : Bool) {F : List Addr} {ρ : Rho} {M : Mem} {P : AK} {EX : XKA} {W : WX} {σ : L2.St} {H : Hp} {Q : VK}
    (hi : DenI X tg iter ai) (hg : Blk X scope fun X' => DenG X' tg ws g) (hw : ∀ i ∈ ws, i ∈ vs) (ht : Blk X scope fun X' => DenTs X' ifs tt) (he : Blk X scope fun X' => DenE X' elt te) (S : Sta X H F M σ ρ) (tk : Takes X W)
    (h : aLcL vs ai g tt te (if b = true then rMut else rFro) ρ M P EX) (hP : ∀ v d M' H', Step H M H' M' → MSt X.K H' F M' → DV X.K H' (um F M') v d → P d M' → Q v H') (hX : LX X H F M EX (fun cls d H' => W cls d σ H')) :
    tLc (IW X tg iter) (fun v σ H Q => ∀ (s : Shared) (H' : Hp) (C : Addr) (cl : List (Str × Addr)) (fp : List Addr), GT (X.blk s H' scope (compEnvC scope cl C X.env) fp) tg v σ H Q)
      (fun σ H Q => ∀ (s : Shared) (H' : Hp) (C : Addr) (cl : List (Str × Addr)) (fp : List Addr) (pins : List (Addr × Obj)) (t : Shared), Inv (X.blk s H' scope (compEnvC scope cl C X.env) fp) pins σ H t →
        wpAny (model X.prog X.w) X.A (forIn ifs true fun c r => if r = true then do let ok ← isTrue c (compEnvC scope cl C X.env) (eval c (compEnvC scope cl C X.env)); pure (ForInStep.yield ok) else pure (ForInStep.yield r)) (TP (X.blk s H' scope (compEnvC scope cl C X.env) fp) pins σ Q) (fun _ _ => False) t)
      (fun σ H Q => ∀ (s : Shared) (H' : Hp) (C : Addr) (cl : List (Str × Addr)) (fp : List Addr), EW (X.blk s H' scope (compEnvC scope cl C X.env) fp) elt σ H Q) vs σ H Q := by
  refine hi.run F ρ M _ EX W σ H _ S tk h (fun J xs M1 H1 s1 m1 io hL => ?_) hX
  intro D0 hD
  obtain ⟨Jv, h0, hstep, hd⟩ := hL
  have nD := m1.notin hD
  have st0 : Step H1 M1 (upd H1 D0 (.lst [])) M1 := step_new hD
  have mD : MSt X.K (upd H1 D0 (.lst [])) (D0 :: F) M1 := by
    have m := mst_new (o := .lst []) m1 hD
    exact ⟨m.nd, fun q hq => by
      obtain ⟨u, e⟩ := (m1.ok q hq).there
      have z := (m1.ok q hq)
      have key : ∀ {o : MO}, MoOk X.K H1 (um F M1) q.1 o → MoOk X.K (upd H1 D0 (.lst [])) (um (D0 :: F) M1) q.1 o := fun {o} z => by
        have f2 : FrGo H1 F (D0 :: F) := fun b hb => (List.mem_cons.mp hb).elim (fun y => Or.inr (by rw [y]; exact hD)) Or.inl
        have ne : upd H1 D0 (.lst []) q.1 = H1 q.1 := upd_ne (ne_of_none e hD)
        cases o with
        | lst ds => obtain ⟨a, b1, b2⟩ := z; exact ⟨a, ne.trans b1, b2.step2 st0 f2⟩
        | ins C fs => obtain ⟨a, b, b1, b2⟩ := z; exact ⟨a, b, ne.trans b1, b2.step2 st0 f2⟩
        | dK kvs => obtain ⟨a, b1, b2⟩ := z; exact ⟨a, ne.trans b1, b2.step2 st0 f2⟩
        | any o => exact ne.trans z
      exact key z, fun b hb => by
      rcases List.mem_cons.mp hb with y | y
      · rw [y]; exact ⟨fun z => nD (List.mem_append_left _ z), _, upd_same⟩
      · exact m.fr b y⟩
  have f2 : FrGo H1 F (D0 :: F) := fun b hb => (List.mem_cons.mp hb).elim (fun y => Or.inr (by rw [y]; exact hD)) Or.inl
  -- the invariant of the turns
  let Wv : Nat → Hp → Prop := fun i H' => ∃ acc as M', Step H1 M1 H' M' ∧ MSt X.K H' (D0 :: F) M' ∧ H' D0 = some (.lst as) ∧ DVs X.K H' (um (D0 :: F) M') as acc ∧ Jv i acc M'
  refine ⟨fun i m H' => m + i = xs.length ∧ Wv i H', ⟨xs.length, Nat.add_zero _, [], [], M1, st0, mD, upd_same, .nil, h0⟩, ?_⟩
  rintro i m H' ⟨hm, acc, as, M', s', m', hD', dvs, hj⟩
  obtain ⟨ho, hstop⟩ := io (D0 :: F) H' M' s'.toX f2 m'
  by_cases hi' : i = xs.length
  · subst hi'
    left
    refine ⟨hstop, ?_⟩
    have mF : MSt X.K H' F M' := m'.less fun b hb => List.mem_cons_of_mem _ hb
    have nD' : D0 ∉ dom M' := (m'.fr D0 List.mem_cons_self).1
    have nF : D0 ∉ F := fun z => nD (List.mem_append_right _ z)
    have hq := hd acc M' hj
    cases b with
    | false =>
      have hq' : P (.lst acc) M' := hq
      refine hP _ _ M' H' (s1.trans s') mF (.lst hD' (fun z => (List.mem_append.mp z).elim nD' nF) (dvs.anti fun a ha => (List.mem_append.mp ha).elim (fun z => List.mem_append_left _ z) fun z => List.mem_append_right _ (List.mem_cons_of_mem _ z))) hq'
    | true =>
      have hq' : ∀ q, q ∉ dom M' → P (.ref q) (M' ++ [(q, .lst acc)]) := hq
      have sp : Split (M' ++ [(D0, MO.lst acc)]) M' [(D0, MO.lst acc)] := List.Perm.refl _
      have sub : ∀ a ∈ um F (M' ++ [(D0, MO.lst acc)]), a ∈ um (D0 :: F) M' := fun a ha => by
        rw [um, dom_app] at ha
        simp only [List.mem_append, List.mem_singleton] at ha
        rcases ha with (z | z) | z
        · exact List.mem_append_left _ z
        · exact List.mem_append_right _ (by rw [z]; exact List.mem_cons_self)
        · exact List.mem_append_right _ (List.mem_cons_of_mem _ z)
      have mm : MSt X.K H' F (M' ++ [(D0, MO.lst acc)]) := by
        refine ⟨?_, fun q hq => ?_, fun b hb => ⟨?_, (mF.fr b hb).2⟩⟩
        · rw [dom_app]
          refine List.nodup_append.mpr ⟨mF.nd, by simp, fun a ha b hb => ?_⟩
          rw [List.mem_singleton.mp hb]
          rintro rfl
          exact nD' ha
        · rcases List.mem_append.mp hq with z | z
          · exact (m'.ok q z).anti sub
          · rw [List.mem_singleton.mp z]
            exact ⟨as, hD', dvs.anti sub⟩
        · rw [dom_app]
          intro z
          rcases List.mem_append.mp z with z | z
          · exact (mF.fr b hb).1 z
          · rw [List.mem_singleton.mp z] at hb; exact nF hb
      refine hP _ _ (M' ++ [(D0, MO.lst acc)]) H' ⟨(s1.trans s').keep, fun b hb => ?_⟩ mm (.ref D0) (hq' D0 nD')
      rw [dom_app] at hb
      rcases List.mem_append.mp hb with z | z
      · exact (s1.trans s').new b z
      · rw [List.mem_singleton.mp z]
        cases e : H D0 with
        | none => exact Or.inr rfl
        | some u =>
          by_cases hdm : D0 ∈ dom M
          · exact Or.inl hdm
          · have := s1.keep D0 u hdm e
            rw [hD] at this; cases this
  · right
    have hlt : i < xs.length := by omega
    obtain ⟨d, hd'⟩ : ∃ d, xs[i]? = some d := ⟨_, List.getElem?_eq_getElem hlt⟩
    obtain ⟨hgo, hy⟩ := ho i d hd'
    refine ⟨hgo, Wv (i + 1), fun H2 q => ⟨m - 1, by omega, by omega, q⟩, fun x H2 hyl => ?_⟩
    obtain ⟨s2, m2, dx⟩ := hy x H2 hyl
    have keepD : ∀ {Ha Hb : Hp} {Ma Mb : Mem} {as : List V}, Step Ha Ma Hb Mb → MSt X.K Ha (D0 :: F) Ma → Ha D0 = some (.lst as) → Hb D0 = some (.lst as) := fun st mm e => st.keep D0 _ (mm.fr D0 List.mem_cons_self).1 e
    have sl2 : SlOk X.K H2 (um (D0 :: F) M') (L2.wipe σ vs) (wipeA ρ vs) := by
      have z : SlOk X.K H1 (um F M1) σ ρ := (S.step s1 m1).sl
      have z2 : SlOk X.K H2 (um (D0 :: F) M') σ ρ := ⟨z.len, fun i d e => let ⟨v, e1, e2⟩ := z.at_ i d e; ⟨v, e1, e2.step2 (s'.trans s2) f2⟩⟩
      exact z2.wipe vs
    intro s_ H_ C_ cl_ fp_
    refine (hg s_ H_ C_ cl_ fp_).run (D0 :: F) x d _ M' _ (fun _ _ _ _ => False) _ H2 _ ⟨sl2, m2⟩ dx takes_no (hstep i d acc M' hd' hj) fun ρ3 M3 σ3 H3 s3 S3 oe q3 => ?_
    refine ⟨wipe_eq oe hw, fun s_ H_ C_ cl_ fp_ pins t J' => ?_⟩
    refine (ht s_ H_ C_ cl_ fp_).run (D0 :: F) ρ3 M3 _ noX (fun _ _ _ _ => False) σ3 H3 _ ⟨S3.sl, S3.ms⟩ takes_no q3 (fun bb M4 H4 s4 m4 q4 => ?_) lx_no pins t J'
    have dv4 := (((dvs.step s2).step s3).step s4)
    have hD4 := keepD s4 S3.ms (keepD s3 m2 (keepD s2 m' hD'))
    cases bb with
    | false =>
      show Wv (i + 1) H4
      exact ⟨acc, as, M4, ((s'.trans s2).trans s3).trans s4, m4, hD4, dv4, q4.2 rfl⟩
    | true =>
      rw [if_pos rfl]
      intro s_ H_ C_ cl_ fp_
      refine (he s_ H_ C_ cl_ fp_).run (D0 :: F) ρ3 M4 _ noX (fun _ _ _ _ => False) σ3 H4 _ ⟨S3.sl.step s4, m4⟩ takes_no (q4.1 rfl) (fun y yd M5 H5 s5 m5 dy q5 => ?_) lx_no
      have hD5 := keepD s5 m4 hD4
      refine ⟨as, hD5, by rw [dvs.length]; exact Nat.lt_of_lt_of_le q5.1 (by decide), acc ++ [yd], as ++ [y], M5, ?_, ?_, upd_same, ?_, q5.2⟩
      · refine ⟨fun b u hb e => ?_, fun b hb => ((((s'.trans s2).trans s3).trans s4).trans s5).new b hb⟩
        rw [upd_ne (ne_of_none e hD)]
        exact ((((s'.trans s2).trans s3).trans s4).trans s5).keep b u hb e
      · refine ⟨m5.nd, fun q hq => ?_, fun b hb => ⟨(m5.fr b hb).1, ?_⟩⟩
        · have nq : q.1 ≠ D0 := fun z => (m5.fr D0 List.mem_cons_self).1 (by rw [← z]; exact List.mem_map_of_mem (f := (·.1)) hq)
          exact MoOk.frz (List.mem_append_right _ List.mem_cons_self) nq (m5.ok q hq)
        · by_cases e : b = D0
          · rw [e]; exact ⟨_, upd_same⟩
          · rw [upd_ne e]; exact (m5.fr b hb).2
      · exact DVs.frz (List.mem_append_right _ List.mem_cons_self) ((dv4.step s5).append (DVs.one dy))
/-- [elt for tg in iter if ..] -/
theorem de_lc {elt tg iter : Expr} {ifs : List Expr} {scope : Scope} {own : List (Str × Nat)} {ws : List Nat} {pos : Pos} {ai : AI} {g : AG} {tt : AT} {te : AE} (b : Bool) (own_ : own = own) (hc : X.calm = true) (hN : X.N.Nodup) (ok : BlkOk X.N X.env.scope scope own)
    (hi : DenI X tg iter ai) (hg : Blk X scope fun X' => DenG X' tg ws g) (ht : Blk X scope fun X' => DenTs X' ifs tt) (he : Blk X scope fun X' => DenE X' elt te) (hw : ∀ i ∈ ws, i ∈ own.map (·.2) := by decide) (hs : ∀ x, foldedSetIterable iter X.env x = pure x := by intro _; rfl) :
    DenE X (.ListComp elt [⟨tg, iter, ifs, 0⟩] scope pos) (aLcL (own.map (·.2)) ai g tt te (if b = true then rMut else rFro)) :=
  ⟨fun F ρ M P EX W σ H Q S tk h hP hX => PE.ew (pe_lc (own := own) hc hN (pi_iw (X := X)) ok (fun s H C cl fp => ⟨fun pins s σ H v u Q I r h => h _ _ _ _ _ pins s u I r⟩) (fun s H C cl fp => ⟨fun pins s σ H Q I h => h _ _ _ _ _ pins s I⟩) (fun s H C cl fp => ⟨fun pins s σ H Q I h => h _ _ _ _ _ pins s I⟩) hs)
    (lc_ok b hi hg hw ht he S tk h hP hX)⟩
/-- y = [elt for tg in iter if ..] -/
theorem ds_setLc {elt tg iter : Expr} {ifs : List Expr} {scope : Scope} {own : List (Str × Nat)} {ws : List Nat} {pos spos py : Pos} {ai : AI} {g : AG} {tt : AT} {te : AE} (b : Bool) (i : Nat) {y : Str} (own_ : own = own) (hc : X.calm = true) (hN : X.N.Nodup) (ok : BlkOk X.N X.env.scope scope own)
    (hi : DenI X tg iter ai) (hg : Blk X scope fun X' => DenG X' tg ws g) (ht : Blk X scope fun X' => DenTs X' ifs tt) (he : Blk X scope fun X' => DenE X' elt te)
    (hsw : swapsWith (.ListComp elt [⟨tg, iter, ifs, 0⟩] scope pos) (some (.Name y py)) spos.line X.env = pure true) (hy : X.N[i]? = some y := by rfl) (hyl : X.env.scope.names.lookup y = some .local := by rfl) (hw : ∀ i ∈ ws, i ∈ own.map (·.2) := by decide) (hs : ∀ x, foldedSetIterable iter X.env x = pure x := by intro _; rfl) :
    DenS X (.Assign [.Name y py] (.ListComp elt [⟨tg, iter, ifs, 0⟩] scope pos) spos) (aAsg (aLcL (own.map (·.2)) ai g tt te (if b = true then rMut else rFro)) (gNameA i)) :=
  ⟨fun F ρ M k W σ H D S tk h L => fun pins s I => (ps_setLc (own := own) hc hN hy hyl hsw (pi_iw (X := X)) ok (fun s H C cl fp => ⟨fun pins s σ H v u Q I r h => h _ _ _ _ _ pins s u I r⟩) (fun s H C cl fp => ⟨fun pins s σ H Q I h => h _ _ _ _ _ pins s I⟩) (fun s H C cl fp => ⟨fun pins s σ H Q I h => h _ _ _ _ _ pins s I⟩) hs).run pins s σ H D I
    (lc_ok b hi hg hw ht he S tk h (fun v d M' H' s m dv q => L.nx _ M' _ H' s ⟨by rw [sS_set]; exact (S.sl.step s).set dv i, m⟩ q) (L.lx S))⟩
end
end Ab
set_option maxRecDepth 100000
set_option maxHeartbeats 2000000
/-! Ab7: operations over data. -/
namespace Ab
open PySem L2 PyProof.Rows

/-- what a new list, a new tuple of data is -/
theorem new_lst {X : Cx} {F : List Addr} {H : Hp} {M : Mem} {p : Addr} {xs : List V} {ds : List D} (m : MSt X.K H F M) (hp : H p = none) (dv : DVs X.K H (um F M) xs ds) : Step H M (upd H p (.lst xs)) M ∧ MSt X.K (upd H p (.lst xs)) F M ∧ DV X.K (upd H p (.lst xs)) (um F M) (.ref p) (.lst ds) :=
  ⟨step_new hp, mst_new m hp, .lst upd_same (m.notin hp) (dv.step (step_new hp))⟩
theorem new_tup {X : Cx} {F : List Addr} {H : Hp} {M : Mem} {p : Addr} {xs : List V} {ds : List D} (m : MSt X.K H F M) (hp : H p = none) (dv : DVs X.K H (um F M) xs ds) : Step H M (upd H p (.tup xs)) M ∧ MSt X.K (upd H p (.tup xs)) F M ∧ DV X.K (upd H p (.tup xs)) (um F M) (.ref p) (.tup ds) :=
  ⟨step_new hp, mst_new m hp, .tup (Or.inl upd_same) (m.notin hp) (dv.step (step_new hp))⟩
theorem new_dic {X : Cx} {F : List Addr} {H : Hp} {M : Mem} {p : Addr} {xs : List (Key × V)} {ds : List (Key × D)} (m : MSt X.K H F M) (hp : H p = none) (dv : DKs X.K H (um F M) xs ds) : Step H M (upd H p (.dK xs)) M ∧ MSt X.K (upd H p (.dK xs)) F M ∧ DV X.K (upd H p (.dK xs)) (um F M) (.ref p) (.dic ds) :=
  ⟨step_new hp, mst_new m hp, .dic upd_same (m.notin hp) (dv.step (step_new hp))⟩

/-- a tuple that is known to have no dict -/
theorem DV.tpn_inv {K : PySem.W.Frag} {H : Hp} {U : List Addr} {v : V} {ds : List D} (h : DV K H U v (.tpn ds)) : ∃ a xs, v = .ref a ∧ SqT K H a xs ∧ DVs K H U xs ds ∧ DV K H U v (.tup ds) := by
  cases h with
  | tpn h hd hn t => exact ⟨_, _, rfl, .inl (.inr ⟨_, h⟩), t, .tup (.inr ⟨_, h⟩) hn t⟩
  | tpnK h1 h2 h3 h t => exact ⟨_, _, rfl, h H, t, .tupK h t⟩
/-- a list that may be changed by its asker, or is data; exactly tracked -/
inductive LstA (M : Mem) : D → List D → Prop
  | fr {l : List D} : LstA M (.lst l) l
  | mu {a : Addr} {l : List D} : (a, MO.lst l) ∈ M → LstA M (.ref a) l
/-- a list that is read -/
inductive LstR (M : Mem) : D → List D → Prop
  | fr {l : List D} : LstR M (.lst l) l
  | sk {l : List D} : LstR M (.lsk l) l
  | mu {a : Addr} {l : List D} : (a, MO.lst l) ∈ M → LstR M (.ref a) l
/-- a list or tuple that is read -/
inductive SeqR (M : Mem) : D → List D → Prop
  | tup {l : List D} : SeqR M (.tup l) l
  | tpn {l : List D} : SeqR M (.tpn l) l
  | fr {l : List D} : SeqR M (.lst l) l
  | sk {l : List D} : SeqR M (.lsk l) l
  | mu {a : Addr} {l : List D} : (a, MO.lst l) ∈ M → SeqR M (.ref a) l
section
variable {K : PySem.W.Frag} {H : Hp} {F : List Addr} {M : Mem} {v : V} {d : D} {l : List D}
theorem LstA.inv (h : LstA M d l) (m : MSt K H F M) (dv : DV K H (um F M) v d) : ∃ a xs, v = .ref a ∧ H a = some (.lst xs) ∧ DVs K H (um F M) xs l := by
  cases h with
  | fr => cases dv with
    | lst h hn t => exact ⟨_, _, rfl, h, t⟩
  | mu hm =>
    cases dv
    obtain ⟨xs, e1, e2⟩ := m.ok _ hm
    exact ⟨_, xs, rfl, e1, e2⟩
theorem LstR.inv (h : LstR M d l) (m : MSt K H F M) (dv : DV K H (um F M) v d) : ∃ a xs, v = .ref a ∧ SqL K H a xs ∧ DVs K H (um F M) xs l := by
  cases h with
  | fr => cases dv with
    | lst h hn t => exact ⟨_, _, rfl, SqL.of h, t⟩
  | sk => cases dv with
    | lsk h hn t => exact ⟨_, _, rfl, .inl h, t⟩
    | lskK h t => exact ⟨_, _, rfl, h H, t⟩
  | mu hm =>
    cases dv
    obtain ⟨xs, e1, e2⟩ := m.ok _ hm
    exact ⟨_, xs, rfl, SqL.of e1, e2⟩
theorem SeqR.inv (h : SeqR M d l) (m : MSt K H F M) (dv : DV K H (um F M) v d) : ∃ a xs, v = .ref a ∧ (SqL K H a xs ∨ SqT K H a xs) ∧ DVs K H (um F M) xs l := by
  cases h with
  | tup =>
    obtain ⟨a, xs, e, h, t⟩ := dv.tup_inv
    exact ⟨a, xs, e, Or.inr h, t⟩
  | tpn =>
    obtain ⟨a, xs, e, h, t, _⟩ := dv.tpn_inv
    exact ⟨a, xs, e, Or.inr h, t⟩
  | fr =>
    obtain ⟨a, xs, e, h, t⟩ := LstR.inv .fr m dv
    exact ⟨a, xs, e, Or.inl h, t⟩
  | sk =>
    obtain ⟨a, xs, e, h, t⟩ := LstR.inv .sk m dv
    exact ⟨a, xs, e, Or.inl h, t⟩
  | mu hm =>
    obtain ⟨a, xs, e, h, t⟩ := LstR.inv (.mu hm) m dv
    exact ⟨a, xs, e, Or.inl h, t⟩
end

/-! ### two-place -/
inductive AddA : A2
  | int {i j : Int} {M : Mem} {P : AK} : P (.int (i + j)) M → AddA (.int i) (.int j) M P
  | str {a b : Str} {M : Mem} {P : AK} : a.length + b.length ≤ 100000 → P (.str (a ++ b)) M → AddA (.str a) (.str b) M P
  | tup {l r : List D} {M : Mem} {P : AK} : l.length + r.length ≤ 100000 → P (.tup (l ++ r)) M → AddA (.tup l) (.tup r) M P
  | lst {x y : D} {l r : List D} {M : Mem} {P : AK} : LstA M x l → LstA M y r → l.length + r.length ≤ 100000 → P (.lst (l ++ r)) M → AddA x y M P
  | ib {i : Int} {b : Bool} {M : Mem} {P : AK} : P (.int (i + if b = true then 1 else 0)) M → AddA (.int i) (.bl b) M P
inductive SubA : A2
  | int {i j : Int} {M : Mem} {P : AK} : P (.int (i - j)) M → SubA (.int i) (.int j) M P
inductive MulA : A2
  | intL {i j : Int} {M : Mem} {P : AK} : -(2 ^ 64) < i ∧ i < 2 ^ 64 → P (.int (i * j)) M → MulA (.int i) (.int j) M P
  | intR {i j : Int} {M : Mem} {P : AK} : -(2 ^ 64) < j ∧ j < 2 ^ 64 → P (.int (i * j)) M → MulA (.int i) (.int j) M P
  | intW {i j : Int} {M : Mem} {P : AK} : i.natAbs.log2 + j.natAbs.log2 < 1000000 → P (.int (i * j)) M → MulA (.int i) (.int j) M P
  | lst {x : D} {l : List D} {k : Int} {M : Mem} {P : AK} : LstA M x l → -(2 ^ 63) ≤ k ∧ k < 2 ^ 63 → l.length * k.toNat ≤ 100000 → P (.lst (List.replicate k.toNat l).flatten) M → MulA x (.int k) M P
inductive DivA : A2
  | int {i j : Int} {M : Mem} {P : AK} : 0 < j ∧ j < 1073741824 → P (.int (i / j)) M → DivA (.int i) (.int j) M P
  | intW {i j : Int} {M : Mem} {P : AK} : 0 < j ∧ j.natAbs.log2 < 9000 → P (.int (i / j)) M → DivA (.int i) (.int j) M P
inductive ModA : A2
  | int {i j : Int} {M : Mem} {P : AK} : 0 < j → P (.int (i % j)) M → ModA (.int i) (.int j) M P
inductive PowA : A2
  | int {i j : Int} {M : Mem} {P : AK} : 0 ≤ j ∧ j ≤ 1000000 ∧ i.natAbs < 2 ^ 64 → P (.int (i ^ j.toNat)) M → PowA (.int i) (.int j) M P
inductive ShlA : A2
  | int {i j : Int} {M : Mem} {P : AK} : 0 ≤ j ∧ j ≤ 1000000 ∧ i.natAbs < 2 ^ 64 → P (.int (i * 2 ^ j.toNat)) M → ShlA (.int i) (.int j) M P
inductive ShrA : A2
  | int {i j : Int} {M : Mem} {P : AK} : 0 ≤ j → P (.int (i / 2 ^ j.toNat)) M → ShrA (.int i) (.int j) M P
inductive LtA : A2
  | int {i j : Int} {M : Mem} {P : AK} : P (.bl (decide (i < j))) M → LtA (.int i) (.int j) M P
  | str {a b : Str} {M : Mem} {P : AK} : P (.bl (decide (a.cps.toList < b.cps.toList))) M → LtA (.str a) (.str b) M P
inductive LeA : A2
  | int {i j : Int} {M : Mem} {P : AK} : P (.bl (decide (i ≤ j))) M → LeA (.int i) (.int j) M P
  | str {a b : Str} {M : Mem} {P : AK} : P (.bl (!decide (b.cps.toList < a.cps.toList))) M → LeA (.str a) (.str b) M P
inductive GtA : A2
  | int {i j : Int} {M : Mem} {P : AK} : P (.bl (decide (j < i))) M → GtA (.int i) (.int j) M P
inductive GeA : A2
  | int {i j : Int} {M : Mem} {P : AK} : P (.bl (decide (j ≤ i))) M → GeA (.int i) (.int j) M P
def isNon : D → Bool
  | .non => true
  | _ => false
/-- data that == tells apart: flat, tuples and lists of such -/
inductive IsPy : D → PyData → Prop
  | non : IsPy .non .none
  | bl (b : Bool) : IsPy (.bl b) (.bool b)
  | int (i : Int) : IsPy (.int i) (.int i)
  | str (s : Str) : IsPy (.str s) (.str s)
  | tup {l : List D} {ps : List PyData} : Paired IsPy l ps → IsPy (.tup l) (.tuple ps)
  | lst {l : List D} {ps : List PyData} : Paired IsPy l ps → IsPy (.lst l) (.list ps)
  | lsk {l : List D} {ps : List PyData} : Paired IsPy l ps → IsPy (.lsk l) (.list ps)
inductive EqA : A2
  | int {i j : Int} {M : Mem} {P : AK} : P (.bl (decide (i = j))) M → EqA (.int i) (.int j) M P
  | bl {i j : Bool} {M : Mem} {P : AK} : P (.bl (decide (i = j))) M → EqA (.bl i) (.bl j) M P
  | str {i j : Str} {M : Mem} {P : AK} : P (.bl (decide (i = j))) M → EqA (.str i) (.str j) M P
  | isn {i : Int} {s : Str} {M : Mem} {P : AK} : P (.bl false) M → EqA (.int i) (.str s) M P
  | sin {i : Int} {s : Str} {M : Mem} {P : AK} : P (.bl false) M → EqA (.str s) (.int i) M P
  | bn {b : Bool} {M : Mem} {P : AK} : P (.bl false) M → EqA (.bl b) .non M P
  | nb {b : Bool} {M : Mem} {P : AK} : P (.bl false) M → EqA .non (.bl b) M P
  | nn {M : Mem} {P : AK} : P (.bl true) M → EqA .non .non M P
  | py {x y : D} {p q : PyData} {M : Mem} {P : AK} : IsPy x p → IsPy y q → SeqAt.shaped p = true → SeqAt.shaped q = true → P (.bl (PyData.eqv p q)) M → EqA x y M P
def NeA : A2 := fun x y M P => EqA x y M (fun d M' => ∃ b, d = .bl b ∧ P (.bl (!b)) M')
inductive InA : A2
  | sign {c : Nat} {z : Str} {M : Mem} {P : AK} : P (.bl (decide (c ∈ z.cps.toList))) M → InA (.str ⟨#[c]⟩) (.str z) M P
  | seq {x y : D} {l : List D} {vx : V} {vs : List V} {M : Mem} {P : AK} : SeqR M y l → flatD x = some vx → Paired (fun d v => flatD d = some v ∧ flatV v = true) l vs → flatV vx = true → P (.bl (inV vx vs)) M → InA x y M P
def NotInA : A2 := fun x y M P => InA x y M (fun d M' => ∃ b, d = .bl b ∧ P (.bl (!b)) M')
inductive IsA : A2
  | non {x : D} {M : Mem} {P : AK} : P (.bl (isNon x)) M → IsA x .non M P
inductive IsNotA : A2
  | non {x : D} {M : Mem} {P : AK} : P (.bl (!isNon x)) M → IsNotA x .non M P
section
variable {X : Cx}
theorem ok_add : OkA2 X (binaryOp .Add) AddA := fun F x y v w M P H Q m dv dw h hP => by
  cases h with
  | int q =>
    cases dv; cases dw
    exact ⟨_, op_add, _, _, rfl, rfl, hP _ _ M H (Step.refl H M) m (.int _) q⟩
  | str hz q =>
    cases dv; cases dw
    exact ⟨_, op_add_str, _, _, rfl, rfl, sz hz, hP _ _ M H (Step.refl H M) m (.str _) q⟩
  | tup hz q =>
    obtain ⟨a, xs, rfl, h1, t1⟩ := dv.tup_inv
    obtain ⟨b, ys, rfl, h2, t2⟩ := dw.tup_inv
    refine ⟨_, op_catA, a, b, xs, ys, rfl, rfl, h1, h2, by rw [t1.length, t2.length]; exact sz hz, fun e => ?_, fun e1 e2 => ?_, fun e1 e2 p hp => ?_⟩
    · subst e
      cases t1
      exact hP _ _ M H (Step.refl H M) m dw q
    · subst e2
      cases t2
      exact hP _ _ M H (Step.refl H M) m dv (by rw [List.append_nil] at q; exact q)
    · obtain ⟨s1, m1, d1⟩ := new_tup m hp (t1.append t2)
      exact hP _ _ M _ s1 m1 d1 q
  | lst h1 h2 hz q =>
    obtain ⟨a, xs, rfl, e1, t1⟩ := h1.inv m dv
    obtain ⟨b, ys, rfl, e2, t2⟩ := h2.inv m dw
    refine ⟨_, op_cat, a, b, xs, ys, rfl, rfl, e1, e2, by rw [t1.length, t2.length]; exact sz hz, fun p hp => ?_⟩
    obtain ⟨s1, m1, d1⟩ := new_lst m hp (t1.append t2)
    exact hP _ _ M _ s1 m1 d1 q
  | @ib i b M P q =>
    cases dv; cases dw
    have e : b2i b = if b = true then 1 else 0 := by cases b <;> rfl
    exact ⟨_, op_add_ib, _, _, rfl, rfl, by rw [e]; exact hP _ _ M H (Step.refl H M) m (.int _) q⟩
theorem ok_sub : OkA2 X (binaryOp .Sub) SubA := fun F x y v w M P H Q m dv dw h hP => by
  cases h with
  | int q =>
    cases dv; cases dw
    exact ⟨_, op_sub, _, _, rfl, rfl, hP _ _ M H (Step.refl H M) m (.int _) q⟩
theorem ok_mul : OkA2 X (binaryOp .Mult) MulA := fun F x y v w M P H Q m dv dw h hP => by
  cases h with
  | intL hc q =>
    cases dv; cases dw
    exact ⟨_, op_mul, _, _, rfl, rfl, Or.inl hc, hP _ _ M H (Step.refl H M) m (.int _) q⟩
  | intR hc q =>
    cases dv; cases dw
    exact ⟨_, op_mul, _, _, rfl, rfl, Or.inr hc, hP _ _ M H (Step.refl H M) m (.int _) q⟩
  | intW hc q =>
    cases dv; cases dw
    exact ⟨_, op_mulW, _, _, rfl, rfl, hc, hP _ _ M H (Step.refl H M) m (.int _) q⟩
  | lst h1 hk hz q =>
    obtain ⟨a, xs, rfl, e1, t1⟩ := h1.inv m dv
    cases dw
    refine ⟨_, op_rep, a, _, xs, rfl, rfl, e1, hk.1, hk.2, by rw [t1.length]; exact sz hz, fun p hp => ?_⟩
    have rep : ∀ n : Nat, DVs X.K H (um F M) (List.replicate n xs).flatten (List.replicate n _).flatten := fun n => by
      induction n with
      | zero => exact .nil
      | succ n ih => rw [List.replicate_succ, List.replicate_succ, List.flatten_cons, List.flatten_cons]; exact t1.append ih
    obtain ⟨s1, m1, d1⟩ := new_lst m hp (rep _)
    exact hP _ _ M _ s1 m1 d1 q
theorem ok_div : OkA2 X (binaryOp .FloorDiv) DivA := fun F x y v w M P H Q m dv dw h hP => by
  cases h with
  | int hc q =>
    cases dv; cases dw
    exact ⟨_, op_fdiv, _, _, rfl, rfl, hc, hP _ _ M H (Step.refl H M) m (.int _) q⟩
  | intW hc q =>
    cases dv; cases dw
    exact ⟨_, op_fdivW, _, _, rfl, rfl, hc, hP _ _ M H (Step.refl H M) m (.int _) q⟩
theorem ok_mod : OkA2 X (binaryOp .Mod) ModA := fun F x y v w M P H Q m dv dw h hP => by
  cases h with
  | int hc q =>
    cases dv; cases dw
    exact ⟨_, op_mod, _, _, rfl, rfl, hc, hP _ _ M H (Step.refl H M) m (.int _) q⟩
theorem ok_pow : OkA2 X (binaryOp .Pow) PowA := fun F x y v w M P H Q m dv dw h hP => by
  cases h with
  | int hc q =>
    cases dv; cases dw
    exact ⟨_, op_pow, _, _, rfl, rfl, hc, hP _ _ M H (Step.refl H M) m (.int _) q⟩
theorem ok_shl : OkA2 X (binaryOp .LShift) ShlA := fun F x y v w M P H Q m dv dw h hP => by
  cases h with
  | int hc q =>
    cases dv; cases dw
    exact ⟨_, op_shl, _, _, rfl, rfl, hc, hP _ _ M H (Step.refl H M) m (.int _) q⟩
theorem ok_shr : OkA2 X (binaryOp .RShift) ShrA := fun F x y v w M P H Q m dv dw h hP => by
  cases h with
  | int hc q =>
    cases dv; cases dw
    exact ⟨_, op_shr, _, _, rfl, rfl, hc, hP _ _ M H (Step.refl H M) m (.int _) q⟩
theorem ok_lt : OkA2 X (compareOp .Lt) LtA := fun F x y v w M P H Q m dv dw h hP => by
  cases h with
  | int q =>
    cases dv; cases dw
    exact ⟨_, op_lt, _, _, rfl, rfl, hP _ _ M H (Step.refl H M) m (.bl _) q⟩
  | str q =>
    cases dv; cases dw
    exact ⟨_, op_lt_str, _, _, rfl, rfl, hP _ _ M H (Step.refl H M) m (.bl _) q⟩
theorem ok_le : OkA2 X (compareOp .LtE) LeA := fun F x y v w M P H Q m dv dw h hP => by
  cases h with
  | int q =>
    cases dv; cases dw
    exact ⟨_, op_le, _, _, rfl, rfl, hP _ _ M H (Step.refl H M) m (.bl _) q⟩
  | str q =>
    cases dv; cases dw
    exact ⟨_, op_le_str, _, _, rfl, rfl, hP _ _ M H (Step.refl H M) m (.bl _) q⟩
theorem ok_gt : OkA2 X (compareOp .Gt) GtA := fun F x y v w M P H Q m dv dw h hP => by
  cases h with
  | int q =>
    cases dv; cases dw
    exact ⟨_, op_gt, _, _, rfl, rfl, hP _ _ M H (Step.refl H M) m (.bl _) q⟩
theorem ok_ge : OkA2 X (compareOp .GtE) GeA := fun F x y v w M P H Q m dv dw h hP => by
  cases h with
  | int q =>
    cases dv; cases dw
    exact ⟨_, op_ge, _, _, rfl, rfl, hP _ _ M H (Step.refl H M) m (.bl _) q⟩
mutual
theorem IsPy.dp {K : PySem.W.Frag} {H : Hp} {U : List Addr} : ∀ {d : D} {p : PyData} {v : V}, IsPy d p → DV K H U v d → Dp K H v p
  | _, _, _, .non, .non => .non
  | _, _, _, .bl b, .bl _ => .bl b
  | _, _, _, .int b, .int _ => .int b
  | _, _, _, .str b, .str _ => .str b
  | _, _, _, .tup h, .tup e hn t => .tup (.inl e) (IsPy.dps h t)
  | _, _, _, .tup h, .tupK e t => .tup (e H) (IsPy.dps h t)
  | _, _, _, .lst h, .lst e hn t => .lst (SqL.of e) (IsPy.dps h t)
  | _, _, _, .lsk h, .lsk e hn t => .lst (.inl e) (IsPy.dps h t)
  | _, _, _, .lsk h, .lskK e t => .lst (e H) (IsPy.dps h t)
theorem IsPy.dps {K : PySem.W.Frag} {H : Hp} {U : List Addr} : ∀ {l : List D} {ps : List PyData} {vs : List V}, Paired IsPy l ps → DVs K H U vs l → DpAll K H vs ps
  | _, _, _, .nil, .nil => .nil
  | _, _, _, .cons a b, .cons c d => .cons (IsPy.dp a c) (IsPy.dps b d)
end
theorem ok_eq (hu : X.A.units + 64 < cLine) : OkA2 X (compareOp .Eq) EqA := fun F x y v w M P H Q m dv dw h hP => by
  cases h with
  | @int i j _ _ q =>
    cases dv; cases dw
    exact ⟨_, op_eq, rfl, hP _ _ M H (Step.refl H M) m (.bl _) (by simpa using q)⟩
  | @bl i j _ _ q =>
    cases dv; cases dw
    exact ⟨_, op_eq, rfl, hP _ _ M H (Step.refl H M) m (.bl _) (by simpa using q)⟩
  | @str i j _ _ q =>
    cases dv; cases dw
    exact ⟨_, op_eq, rfl, hP _ _ M H (Step.refl H M) m (.bl _) (by simpa using q)⟩
  | isn q =>
    cases dv; cases dw
    exact ⟨_, op_eq, rfl, hP _ _ M H (Step.refl H M) m (.bl _) (by simpa using q)⟩
  | sin q =>
    cases dv; cases dw
    exact ⟨_, op_eq, rfl, hP _ _ M H (Step.refl H M) m (.bl _) (by simpa using q)⟩
  | bn q =>
    cases dv; cases dw
    exact ⟨_, op_eq, rfl, hP _ _ M H (Step.refl H M) m (.bl _) (by simpa using q)⟩
  | nb q =>
    cases dv; cases dw
    exact ⟨_, op_eq, rfl, hP _ _ M H (Step.refl H M) m (.bl _) (by simpa using q)⟩
  | nn q =>
    cases dv; cases dw
    exact ⟨_, op_eq, rfl, hP _ _ M H (Step.refl H M) m (.bl _) (by simpa using q)⟩
  | py h1 h2 s1 s2 q => exact ⟨_, op_eqD hu, _, _, h1.dp dv, h2.dp dw, s1, s2, hP _ _ M H (Step.refl H M) m (.bl _) q⟩
theorem ok_ne (hu : X.A.units + 64 < cLine) : OkA2 X (compareOp .NotEq) NeA := fun F x y v w M P H Q m dv dw h hP => by
  have fin : ∀ {b : Bool}, (∃ b', D.bl b = .bl b' ∧ P (.bl (!b')) M) → P (.bl (!b)) M := fun {b} h => by
    obtain ⟨b', e, q⟩ := h
    cases e; exact q
  cases h with
  | @int i j _ _ q =>
    cases dv; cases dw
    exact ⟨_, op_ne, rfl, hP _ _ M H (Step.refl H M) m (.bl _) (by simpa using fin q)⟩
  | @bl i j _ _ q =>
    cases dv; cases dw
    exact ⟨_, op_ne, rfl, hP _ _ M H (Step.refl H M) m (.bl _) (by simpa using fin q)⟩
  | @str i j _ _ q =>
    cases dv; cases dw
    exact ⟨_, op_ne, rfl, hP _ _ M H (Step.refl H M) m (.bl _) (by simpa using fin q)⟩
  | isn q =>
    cases dv; cases dw
    exact ⟨_, op_ne, rfl, hP _ _ M H (Step.refl H M) m (.bl _) (by simpa using fin q)⟩
  | sin q =>
    cases dv; cases dw
    exact ⟨_, op_ne, rfl, hP _ _ M H (Step.refl H M) m (.bl _) (by simpa using fin q)⟩
  | bn q =>
    cases dv; cases dw
    exact ⟨_, op_ne, rfl, hP _ _ M H (Step.refl H M) m (.bl _) (by simpa using fin q)⟩
  | nb q =>
    cases dv; cases dw
    exact ⟨_, op_ne, rfl, hP _ _ M H (Step.refl H M) m (.bl _) (by simpa using fin q)⟩
  | nn q =>
    cases dv; cases dw
    exact ⟨_, op_ne, rfl, hP _ _ M H (Step.refl H M) m (.bl _) (by simpa using fin q)⟩
  | py h1 h2 s1 s2 q => exact ⟨_, op_neD hu, _, _, h1.dp dv, h2.dp dw, s1, s2, hP _ _ M H (Step.refl H M) m (.bl _) (fin q)⟩
theorem flat_inv {K : PySem.W.Frag} {H : Hp} {U : List Addr} {d : D} {v w : V} (h : flatD d = some w) (dv : DV K H U v d) : v = w := by
  cases d <;> simp [flatD] at h <;> subst h <;> cases dv <;> rfl
theorem flats_inv {K : PySem.W.Frag} {H : Hp} {U : List Addr} : ∀ {l : List D} {vs ws : List V}, Paired (fun d v => flatD d = some v ∧ flatV v = true) l ws → DVs K H U vs l → vs = ws ∧ ws.all flatV = true
  | _, _, _, .nil, .nil => ⟨rfl, rfl⟩
  | _, _, _, .cons a b, .cons c d => by
    obtain ⟨e1, e2⟩ := flats_inv b d
    rw [flat_inv a.1 c, e1]
    exact ⟨rfl, by rw [List.all_cons, a.2, e2]; rfl⟩
theorem ok_in : OkA2 X (compareOp .In) InA := fun F x y v w M P H Q m dv dw h hP => by
  cases h with
  | sign q =>
    cases dv; cases dw
    exact ⟨_, op_in_sign, _, _, rfl, rfl, hP _ _ M H (Step.refl H M) m (.bl _) q⟩
  | seq hs hx hl hf q =>
    obtain ⟨a, xs, rfl, e, t⟩ := hs.inv m dw
    obtain ⟨rfl, e2⟩ := flats_inv hl t
    have ev := flat_inv hx dv
    subst ev
    exact ⟨_, op_in_seq, a, xs, rfl, e, hf, e2, by rw [if_neg Bool.false_ne_true]; exact hP _ _ M H (Step.refl H M) m (.bl _) q⟩
theorem ok_notin : OkA2 X (compareOp .NotIn) NotInA := fun F x y v w M P H Q m dv dw h hP => by
  have fin : ∀ {b : Bool}, (∃ b', D.bl b = .bl b' ∧ P (.bl (!b')) M) → P (.bl (!b)) M := fun {b} h => by
    obtain ⟨b', e, q⟩ := h
    cases e; exact q
  cases h with
  | sign q =>
    cases dv; cases dw
    exact ⟨_, op_notIn_sign, _, _, rfl, rfl, hP _ _ M H (Step.refl H M) m (.bl _) (fin q)⟩
  | seq hs hx hl hf q =>
    obtain ⟨a, xs, rfl, e, t⟩ := hs.inv m dw
    obtain ⟨rfl, e2⟩ := flats_inv hl t
    have ev := flat_inv hx dv
    subst ev
    exact ⟨_, op_notIn_seq, a, xs, rfl, e, hf, e2, by rw [if_pos rfl]; exact hP _ _ M H (Step.refl H M) m (.bl _) (fin q)⟩
theorem isnon {K : PySem.W.Frag} {H : Hp} {U : List Addr} {d : D} {v : V} (dv : DV K H U v d) : decide (v = .non) = isNon d := by
  cases dv <;> rfl
theorem ok_is : OkA2 X (compareOp .Is) IsA := fun F x y v w M P H Q m dv dw h hP => by
  cases h with
  | non q => exact ⟨_, op_isN, dw.non', hP _ _ M H (Step.refl H M) m (.bl _) (by rw [isnon dv]; exact q)⟩
theorem ok_isnot : OkA2 X (compareOp .IsNot) IsNotA := fun F x y v w M P H Q m dv dw h hP => by
  cases h with
  | non q => exact ⟨_, op_notN, dw.non', hP _ _ M H (Step.refl H M) m (.bl _) (by rw [isnon dv]; exact q)⟩
end
end Ab
set_option maxRecDepth 100000
set_option maxHeartbeats 2000000
/-! Ab8: items, slices, built-ins, methods of lists and texts. -/
namespace Ab
open PySem L2 PyProof.Rows

section
variable {X : Cx} {a b e o : Expr} {ta tb te : AE} {pos : Pos}
theorem de_tup {es : List Expr} {t : AA} {j : Nat} (h : DenA X es t) : DenE X (.Tuple es j pos) (aTup t) :=
  ⟨fun F ρ M P EX W σ H Q S tk hq hP hX => (pe_tup (pa_gw (X := X))).ew (h.run F ρ M _ EX W σ H _ S tk hq (fun vs ds M1 H1 s1 m1 dv q => ⟨by rw [dv.length]; exact sz q.1, fun p hp => by
    obtain ⟨s2, m2, d2⟩ := new_tup m1 hp dv
    exact hP _ _ M1 _ (s1.trans s2) m2 d2 q.2⟩) hX)⟩
theorem de_lst {es : List Expr} {t : AA} (h : DenA X es t) : DenE X (.List es pos) (aLst t) :=
  ⟨fun F ρ M P EX W σ H Q S tk hq hP hX => (pe_lst (pa_gw (X := X))).ew (h.run F ρ M _ EX W σ H _ S tk hq (fun vs ds M1 H1 s1 m1 dv q => ⟨by rw [dv.length]; exact sz q.1, fun p hp => by
    obtain ⟨s2, m2, d2⟩ := new_lst m1 hp dv
    exact hP _ _ M1 _ (s1.trans s2) m2 d2 q.2⟩) hX)⟩
theorem new_mut {F : List Addr} {H : Hp} {M : Mem} {p : Addr} {xs : List V} {ds : List D} (m : MSt X.K H F M) (hp : H p = none) (dv : DVs X.K H (um F M) xs ds) : Step H M (upd H p (.lst xs)) (M ++ [(p, .lst ds)]) ∧ MSt X.K (upd H p (.lst xs)) F (M ++ [(p, .lst ds)]) ∧ p ∉ dom M :=
  have s1 : Step H M (upd H p (.lst xs)) (M ++ [(p, .lst ds)]) := step_newM hp
  ⟨s1, mst_newM m hp ⟨xs, upd_same, dv.step s1⟩, fun z => m.notin hp (List.mem_append_left _ z)⟩
theorem de_lstM {es : List Expr} {t : AA} (h : DenA X es t) : DenE X (.List es pos) (aLstM t) :=
  ⟨fun F ρ M P EX W σ H Q S tk hq hP hX => (pe_lst (pa_gw (X := X))).ew (h.run F ρ M _ EX W σ H _ S tk hq (fun vs ds M1 H1 s1 m1 dv q => ⟨by rw [dv.length]; exact sz q.1, fun p hp => by
    obtain ⟨s2, m2, n2⟩ := new_mut m1 hp dv
    exact hP _ _ _ _ (s1.trans s2) m2 (.ref _) (q.2 p n2)⟩) hX)⟩
theorem de_gint {x : Str} {i : Int} (h : ∃ t, X.mg x = some (.int i t)) (hg : Gl X x := by rfl) (hd : (x == ("__debug__" : Str)) = false := by decide) : DenE X (.Name x pos) (aC (.int i)) := by
  obtain ⟨t, h⟩ := h
  exact de_glob (v := .int i) h ⟨t, rfl⟩ hg rfl hd
theorem de_gstr {x : Str} {i : Str} (h : ∃ t, X.mg x = some (.str i t)) (hg : Gl X x := by rfl) (hd : (x == ("__debug__" : Str)) = false := by decide) : DenE X (.Name x pos) (aC (.str i)) := by
  obtain ⟨t, h⟩ := h
  exact de_glob (v := .str i) h ⟨t, rfl⟩ hg rfl hd
/-! ### items -/
inductive IxA : A2
  | seq {x : D} {l : List D} {i : Int} {d : D} {M : Mem} {P : AK} : SeqR M x l → atI l i = some d → P d M → IxA x (.int i) M P
  | str {z : Str} {i : Int} {c : Nat} {M : Mem} {P : AK} : z.length ≤ 100000 → atI z.cps.toList i = some c → P (.str ⟨#[c]⟩) M → IxA (.str z) (.int i) M P
theorem DVs.atI {K : PySem.W.Frag} {H : Hp} {U : List Addr} {vs : List V} {ds : List D} {i : Int} {d : D} (h : DVs K H U vs ds) (e : L2.atI ds i = some d) : ∃ v, L2.atI vs i = some v ∧ DV K H U v d := by
  unfold L2.atI at e ⊢
  rw [h.length]
  cases q : ixN ds.length i with
  | none => rw [q] at e; cases e
  | some j =>
    rw [q] at e
    exact h.get e
def anyIx (X : Cx) : R2 := fun x y H Q => ∃ rr, IxR X rr ∧ rr x y H Q
theorem ix_any : IxR X (anyIx X) := fun value slice pins s σ H x y v u Q I r1 r2 ⟨_, h1, h2⟩ hs => h1 value slice pins s σ H x y v u Q I r1 r2 h2 hs
theorem de_ix (ha : DenE X a ta) (hb : DenE X b tb) (hs : PlainIx b := by exact fun _ _ => rfl) : DenE X (.Subscript a b pos) (aBin IxA ta tb) :=
  ⟨fun F ρ M P EX W σ H Q S tk h hP hX => (pe_ix ix_any (pe_ew (X := X)) (pe_ew (X := X)) hs).ew (ha.run F ρ M _ EX W σ H _ S tk h (fun v x M1 H1 s1 m1 dv h1 =>
    hb.run F ρ M1 _ EX W σ H1 _ (S.step s1 m1) tk h1 (fun w y M2 H2 s2 m2 dw h2 => by
      have go : ∀ z d, DV X.K H2 (um F M2) z d → P d M2 → Q z H2 := fun z d dz p => hP z d M2 H2 (s1.trans s2) m2 dz p
      have dv2 := dv.step s2
      cases h2 with
      | seq hq e q =>
        obtain ⟨p, xs, rfl, hh, t⟩ := hq.inv m2 dv2
        cases dw
        obtain ⟨z, e1, e2⟩ := t.atI e
        rcases hh with hh | hh
        · exact ⟨_, ix_list, p, xs, _, z, rfl, rfl, hh, e1, go _ _ e2 q⟩
        · exact ⟨_, ix_tup, p, xs, _, z, rfl, rfl, hh, e1, go _ _ e2 q⟩
      | str hz e q =>
        cases dv2; cases dw
        exact ⟨_, ix_str, _, _, _, rfl, rfl, sz hz, e, go _ _ (.str _) q⟩) (hX.step s1)) hX)⟩

/-! ### slices -/
abbrev AO := Rho → Mem → (Option Int → Mem → Prop) → XKA → Prop
def OW (X : Cx) (o : Option Expr) : TO := fun σ H Q => ∀ (pins : List (Addr × Obj)) (s : Shared), Inv X pins σ H s → wpAny (model X.prog X.w) X.A (evalPart o X.env) (fun u s' => ∃ o H', Inv X pins σ H' s' ∧ IsPart u o ∧ Q o H') X.xe s
theorem po_ow {o : Option Expr} : PO X o (OW X o) := ⟨fun pins s σ H Q I h => h pins s I⟩
structure DenO (X : Cx) (o : Option Expr) (t : AO) : Prop where
  run : ∀ (F : List Addr) (ρ : Rho) (M : Mem) (P : Option Int → Mem → Prop) (EX : XKA) (W : WX) (σ : L2.St) (H : Hp) (Q : Option Int → Hp → Prop), Sta X H F M σ ρ → Takes X W → t ρ M P EX →
    (∀ i M' H', Step H M H' M' → MSt X.K H' F M' → P i M' → Q i H') → LX X H F M EX (fun cls d H' => W cls d σ H') → OW X o σ H Q
def aNoPart : AO := fun _ M P _ => P none M
def aPart (t : AE) : AO := fun ρ M P EX => t ρ M (fun d M1 => ∃ i, d = .int i ∧ P (some i) M1) EX
theorem do_none : DenO X none aNoPart := ⟨fun F ρ M P EX W σ H Q S tk h hP hX => fun pins s I => po_none.run pins s σ H Q I (hP none M H (Step.refl H M) S.ms h)⟩
theorem do_some (he : DenE X e te) : DenO X (some e) (aPart te) := ⟨fun F ρ M P EX W σ H Q S tk h hP hX => fun pins s I => (po_some (pe_ew (X := X))).run pins s σ H Q I
  (he.run F ρ M _ EX W σ H _ S tk h (fun v d M1 H1 s1 m1 dv q => by
    obtain ⟨i, rfl, q⟩ := q
    exact ⟨i, dv.int', hP _ M1 H1 s1 m1 q⟩) hX)⟩
def cutL {α : Type} (xs : List α) (lo hi : Option Int) : List α := (xs.drop (HT.sIx xs.length 0 lo)).take (HT.sIx xs.length xs.length hi - HT.sIx xs.length 0 lo)
theorem DVs.cut {K : PySem.W.Frag} {H : Hp} {U : List Addr} {vs : List V} {ds : List D} {lo hi : Option Int} (h : DVs K H U vs ds) : DVs K H U (cutV vs lo hi) (cutL ds lo hi) := by
  unfold cutV cutL
  rw [h.length]
  exact (h.drop _).take _
theorem cutL_all {α : Type} {xs : List α} {lo hi : Option Int} (h1 : HT.sIx xs.length 0 lo = 0) (h2 : HT.sIx xs.length xs.length hi = xs.length) : cutL xs lo hi = xs := by
  unfold cutL
  rw [h1, h2]
  simp
inductive SlA : D → Option Int → Option Int → Mem → AK → Prop
  | str {z : Str} {lo hi : Option Int} {M : Mem} {P : AK} : z.length ≤ 100000 → P (.str (cutS z lo hi)) M → SlA (.str z) lo hi M P
  | tup {l : List D} {lo hi : Option Int} {M : Mem} {P : AK} : P (.tup (cutL l lo hi)) M → SlA (.tup l) lo hi M P
  | lst {x : D} {l : List D} {lo hi : Option Int} {M : Mem} {P : AK} : LstR M x l → P (.lst (cutL l lo hi)) M → SlA x lo hi M P
def aSl (te : AE) (tl th : AO) : AE := fun ρ M P EX => te ρ M (fun x M1 => tl ρ M1 (fun lo M2 => th ρ M2 (fun hi M3 => SlA x lo hi M3 P) EX) EX) EX
def anySl (X : Cx) : V → Option Int → Option Int → Hp → VK → Prop := fun x lo hi H Q => ∃ rr, SlR X rr ∧ rr x lo hi H Q
theorem sl_any : SlR X (anySl X) := fun pins s σ H x v vl vu lo hi sl Q I rx hs pl pu ⟨_, h1, h2⟩ => h1 pins s σ H x v vl vu lo hi sl Q I rx hs pl pu h2
theorem de_sl {lo hi : Option Expr} {tl th : AO} {p2 : Pos} (he : DenE X e te) (hl : DenO X lo tl) (hh : DenO X hi th) : DenE X (.Subscript e (.Slice lo hi none p2) pos) (aSl te tl th) :=
  ⟨fun F ρ M P EX W σ H Q S tk h hP hX => (pe_slice sl_any (pe_ew (X := X)) (po_ow (X := X)) (po_ow (X := X))).ew (he.run F ρ M _ EX W σ H _ S tk h (fun v x M1 H1 s1 m1 dv h1 =>
    hl.run F ρ M1 _ EX W σ H1 _ (S.step s1 m1) tk h1 (fun lo M2 H2 s2 m2 h2 => hh.run F ρ M2 _ EX W σ H2 _ (S.step (s1.trans s2) m2) tk h2 (fun hi M3 H3 s3 m3 h3 => by
      have dv3 := (dv.step s2).step s3
      have s13 := (s1.trans s2).trans s3
      cases h3 with
      | str hz q =>
        cases dv3
        exact ⟨_, sl_str, _, rfl, sz hz, hP _ _ M3 H3 s13 m3 (.str _) q⟩
      | tup q =>
        obtain ⟨p, xs, rfl, hs, t⟩ := dv3.tup_inv
        refine ⟨_, sl_tupA, p, xs, rfl, hs, fun e => ?_, fun e p' hp => ?_⟩
        · rw [t.length] at e
          exact hP _ _ M3 H3 s13 m3 dv3 (by rw [cutL_all e.1 e.2] at q; exact q)
        · obtain ⟨s4, m4, d4⟩ := new_tup m3 hp (t.cut (lo := lo) (hi := hi))
          exact hP _ _ M3 _ (s13.trans s4) m4 d4 q
      | lst hq q =>
        obtain ⟨p, xs, rfl, hs, t⟩ := hq.inv m3 dv3
        refine ⟨_, sl_list, p, xs, rfl, hs, fun p' hp => ?_⟩
        obtain ⟨s4, m4, d4⟩ := new_lst m3 hp (t.cut (lo := lo) (hi := hi))
        exact hP _ _ M3 _ (s13.trans s4) m4 d4 q) (hX.step (s1.trans s2))) (hX.step s1)) hX)⟩

/-! ### built-ins -/
abbrev AC := List D → Mem → AK → Prop
def OkC (X : Cx) (f : Value) (r : AC) : Prop := ∀ (F : List Addr) (ds : List D) (vs : List V) (M : Mem) (P : AK) (H : Hp) (Q : VK), MSt X.K H F M → DVs X.K H (um F M) vs ds → r ds M P →
  (∀ z d M' H', Step H M H' M' → MSt X.K H' F M' → DV X.K H' (um F M') z d → P d M' → Q z H') → ∃ rr, CallR X f rr ∧ rr vs H Q
def anyC (X : Cx) (f : Value) : List V → Hp → VK → Prop := fun xs H Q => ∃ rr, CallR X f rr ∧ rr xs H Q
theorem call_any {f : Value} : CallR X f (anyC X f) := fun pins s σ H xs us Q I r ⟨_, h1, h2⟩ => h1 pins s σ H xs us Q I r h2
def aCB (r : AC) (t : AA) : AE := fun ρ M P EX => t ρ M (fun ds M1 => r ds M1 P) EX
variable {x : Str} {p : Pos} {es : List Expr} {t : AA} {id T : String} {r : AC}
theorem de_cb (hr : OkC X (.builtin id) r) (hm : X.mg x = none) (hv : bootBuiltins x = some (.builtin id)) (ha : DenA X (e :: es) t) (hg : Gl X x := by rfl) (hn : x ≠ "__name__" := by decide) (hdb : (x == ("__debug__" : Str)) = false := by decide)
    (he : starEach (e :: es) X.env = (false, eval e X.env) :: starEach es X.env := by rfl) (hpl : (backTo pos (starEach es X.env)).any (·.1) = false := by rfl) : DenE X (.Call (.Name x p) (e :: es) [] pos) (aCB r t) :=
  ⟨fun F ρ M P EX W σ H Q S tk h hP hX => (pe_callB call_any hg hm hv (pa_gw (X := X)) hn hdb he hpl).ew (ha.run F ρ M _ EX W σ H _ S tk h (fun vs ds M1 H1 s1 m1 dv q => hr F ds vs M1 P H1 Q m1 dv q fun z d M' H' st m d' p => hP z d M' H' (s1.trans st) m d' p) hX)⟩
theorem de_ct (hr : OkC X (.type T) r) (hm : X.mg x = none) (hv : bootBuiltins x = some (.type T)) (ha : DenA X (e :: es) t) (hg : Gl X x := by rfl) (hn : x ≠ "__name__" := by decide) (hdb : (x == ("__debug__" : Str)) = false := by decide)
    (he : starEach (e :: es) X.env = (false, eval e X.env) :: starEach es X.env := by rfl) (hpl : (backTo pos (starEach es X.env)).any (·.1) = false := by rfl) : DenE X (.Call (.Name x p) (e :: es) [] pos) (aCB r t) :=
  ⟨fun F ρ M P EX W σ H Q S tk h hP hX => (pe_callTy call_any hg hm hv (pa_gw (X := X)) hn hdb he hpl).ew (ha.run F ρ M _ EX W σ H _ S tk h (fun vs ds M1 H1 s1 m1 dv q => hr F ds vs M1 P H1 Q m1 dv q fun z d M' H' st m d' p => hP z d M' H' (s1.trans st) m d' p) hX)⟩
inductive LenA : AC
  | seq {x : D} {l : List D} {M : Mem} {P : AK} : SeqR M x l → P (.int (l.length : Int)) M → LenA [x] M P
  | str {z : Str} {M : Mem} {P : AK} : z.length ≤ 100000 → P (.int (z.length : Int)) M → LenA [.str z] M P
theorem okc_len : OkC X (.builtin "len") LenA := fun F ds vs M P H Q m dv h hP => by
  cases h with
  | seq hs q =>
    cases dv with
    | cons d1 d2 =>
      cases d2
      obtain ⟨a, xs, rfl, e, t⟩ := hs.inv m d1
      exact ⟨_, call_len_seq, a, xs, rfl, e, hP _ _ M H (Step.refl H M) m (.int _) (by rw [t.length]; exact q)⟩
  | str hz q =>
    cases dv with
    | cons d1 d2 =>
      cases d2; cases d1
      exact ⟨_, call_len_str, _, rfl, sz hz, hP _ _ M H (Step.refl H M) m (.int _) q⟩
inductive MaxA : AC
  | two {i j : Int} {M : Mem} {P : AK} : P (.int (if j > i then j else i)) M → MaxA [.int i, .int j] M P
  | lst {x : D} {ns : List Int} {M : Mem} {P : AK} : LstR M x (ns.map D.int) → 0 < ns.length → (∀ k, k ∈ ns → (∀ y, y ∈ ns → y ≤ k) → P (.int k) M) → MaxA [x] M P
inductive MinA : AC
  | two {i j : Int} {M : Mem} {P : AK} : P (.int (if j < i then j else i)) M → MinA [.int i, .int j] M P
  | lst {x : D} {ns : List Int} {M : Mem} {P : AK} : LstR M x (ns.map D.int) → 0 < ns.length → (∀ k, k ∈ ns → (∀ y, y ∈ ns → k ≤ y) → P (.int k) M) → MinA [x] M P
theorem okc_max (hc : X.calm = true) : OkC X (.builtin "max") MaxA := fun F ds vs M P H Q m dv h hP => by
  cases h with
  | two q => exact ⟨_, call_max2 hc, _, _, DVs.rngI dv (is := [_, _]) rfl, hP _ _ M H (Step.refl H M) m (.int _) q⟩
  | lst hs hl q =>
    cases dv with
    | cons d1 d2 =>
      cases d2
      obtain ⟨a, xs, rfl, e, t⟩ := hs.inv m d1
      have := DVs.rngI t rfl
      subst this
      exact ⟨_, cr_max hc, a, _, rfl, e, hl, fun k h1 h2 => hP _ _ M H (Step.refl H M) m (.int _) (q k h1 h2)⟩
theorem okc_min (hc : X.calm = true) : OkC X (.builtin "min") MinA := fun F ds vs M P H Q m dv h hP => by
  cases h with
  | two q => exact ⟨_, call_min2 hc, _, _, DVs.rngI dv (is := [_, _]) rfl, hP _ _ M H (Step.refl H M) m (.int _) q⟩
  | lst hs hl q =>
    cases dv with
    | cons d1 d2 =>
      cases d2
      obtain ⟨a, xs, rfl, e, t⟩ := hs.inv m d1
      have := DVs.rngI t rfl
      subst this
      exact ⟨_, cr_min hc, a, _, rfl, e, hl, fun k h1 h2 => hP _ _ M H (Step.refl H M) m (.int _) (q k h1 h2)⟩
inductive SumA : AC
  | lst {x : D} {ns : List Int} {M : Mem} {P : AK} : LstR M x (ns.map D.int) → P (.int ns.sum) M → SumA [x] M P
theorem okc_sum (hc : X.calm = true) : OkC X (.builtin "sum") SumA := fun F ds vs M P H Q m dv h hP => by
  cases h with
  | lst hs q =>
    cases dv with
    | cons d1 d2 =>
      cases d2
      obtain ⟨a, xs, rfl, e, t⟩ := hs.inv m d1
      have := DVs.rngI t rfl
      subst this
      exact ⟨_, cr_sum hc, a, _, rfl, e, hP _ _ M H (Step.refl H M) m (.int _) q⟩
theorem DVs.bls : ∀ {K : PySem.W.Frag} {H : Hp} {U : List Addr} {vs : List V} {ds : List D} {bs : List Bool}, DVs K H U vs ds → ds = bs.map D.bl → vs = bs.map V.bl
  | _, _, _, _, _, [], .nil, _ => rfl
  | _, _, _, _, _, i :: is, .cons a b, e => by
    cases e
    cases a
    rw [DVs.bls b rfl]; rfl
  | _, _, _, _, _, [], .cons _ _, e => by cases e
  | _, _, _, _, _, _ :: _, .nil, e => by cases e
theorem DVs.strs : ∀ {K : PySem.W.Frag} {H : Hp} {U : List Addr} {vs : List V} {ds : List D} {bs : List Str}, DVs K H U vs ds → ds = bs.map D.str → vs = bs.map V.str
  | _, _, _, _, _, [], .nil, _ => rfl
  | _, _, _, _, _, i :: is, .cons a b, e => by
    cases e
    cases a
    rw [DVs.strs b rfl]; rfl
  | _, _, _, _, _, [], .cons _ _, e => by cases e
  | _, _, _, _, _, _ :: _, .nil, e => by cases e
theorem dvs_strs {K : PySem.W.Frag} {H : Hp} {U : List Addr} : ∀ {bs : List Str}, DVs K H U (bs.map V.str) (bs.map D.str)
  | [] => .nil
  | _ :: _ => .cons (.str _) dvs_strs
theorem dvs_ints {K : PySem.W.Frag} {H : Hp} {U : List Addr} : ∀ {bs : List Int}, DVs K H U (bs.map V.int) (bs.map D.int)
  | [] => .nil
  | _ :: _ => .cons (.int _) dvs_ints
inductive AllA : AC
  | lst {x : D} {bs : List Bool} {M : Mem} {P : AK} : LstR M x (bs.map D.bl) → P (.bl (bs.all _root_.id)) M → AllA [x] M P
inductive AnyA : AC
  | lst {x : D} {bs : List Bool} {M : Mem} {P : AK} : LstR M x (bs.map D.bl) → P (.bl (bs.any _root_.id)) M → AnyA [x] M P
theorem okc_all (hc : X.calm = true) : OkC X (.builtin "all") AllA := fun F ds vs M P H Q m dv h hP => by
  cases h with
  | lst hs q =>
    cases dv with
    | cons d1 d2 =>
      cases d2
      obtain ⟨a, xs, rfl, e, t⟩ := hs.inv m d1
      have := DVs.bls t rfl
      subst this
      exact ⟨_, cr_all hc, a, _, rfl, e, hP _ _ M H (Step.refl H M) m (.bl _) q⟩
theorem okc_any (hc : X.calm = true) : OkC X (.builtin "any") AnyA := fun F ds vs M P H Q m dv h hP => by
  cases h with
  | lst hs q =>
    cases dv with
    | cons d1 d2 =>
      cases d2
      obtain ⟨a, xs, rfl, e, t⟩ := hs.inv m d1
      have := DVs.bls t rfl
      subst this
      exact ⟨_, cr_any hc, a, _, rfl, e, hP _ _ M H (Step.refl H M) m (.bl _) q⟩
inductive TupleA : AC
  | seq {x : D} {l : List D} {M : Mem} {P : AK} : SeqR M x l → P (.tup l) M → TupleA [x] M P
theorem okc_tuple : OkC X (.type "tuple") TupleA := fun F ds vs M P H Q m dv h hP => by
  cases h with
  | seq hs q =>
    cases dv with
    | cons d1 d2 =>
      cases d2
      cases hs with
      | tup =>
        obtain ⟨a, xs, rfl, e, t⟩ := d1.tup_inv
        exact ⟨_, call_tuple_of, a, xs, rfl, Or.inr ⟨e, hP _ _ M H (Step.refl H M) m d1 q⟩⟩
      | tpn =>
        obtain ⟨a, xs, rfl, e, t, d'⟩ := d1.tpn_inv
        exact ⟨_, call_tuple_of, a, xs, rfl, Or.inr ⟨e, hP _ _ M H (Step.refl H M) m d' q⟩⟩
      | fr =>
        obtain ⟨a, xs, rfl, e, t⟩ := LstR.inv .fr m d1
        refine ⟨_, call_tuple_of, a, xs, rfl, Or.inl ⟨e, fun l hl => ?_⟩⟩
        obtain ⟨s1, m1, d1⟩ := new_tup m hl t
        exact hP _ _ M _ s1 m1 d1 q
      | sk =>
        obtain ⟨a, xs, rfl, e, t⟩ := LstR.inv .sk m d1
        refine ⟨_, call_tuple_of, a, xs, rfl, Or.inl ⟨e, fun l hl => ?_⟩⟩
        obtain ⟨s1, m1, d1⟩ := new_tup m hl t
        exact hP _ _ M _ s1 m1 d1 q
      | mu hm =>
        obtain ⟨a, xs, rfl, e, t⟩ := LstR.inv (.mu hm) m d1
        refine ⟨_, call_tuple_of, a, xs, rfl, Or.inl ⟨e, fun l hl => ?_⟩⟩
        obtain ⟨s1, m1, d1⟩ := new_tup m hl t
        exact hP _ _ M _ s1 m1 d1 q
/-- list(xs): data, or (M) a list that may change -/
inductive ListA : AC
  | seq {x : D} {l : List D} {M : Mem} {P : AK} : SeqR M x l → P (.lst l) M → ListA [x] M P
inductive ListMA : AC
  | seq {x : D} {l : List D} {M : Mem} {P : AK} : SeqR M x l → (∀ q, q ∉ dom M → P (.ref q) (M ++ [(q, .lst l)])) → ListMA [x] M P
theorem okc_list : OkC X (.type "list") ListA := fun F ds vs M P H Q m dv h hP => by
  cases h with
  | seq hs q =>
    cases dv with
    | cons d1 d2 =>
      cases d2
      obtain ⟨a, xs, rfl, e, t⟩ := hs.inv m d1
      refine ⟨_, call_list_of, a, xs, rfl, e, fun l hl => ?_⟩
      obtain ⟨s1, m1, d1⟩ := new_lst m hl t
      exact hP _ _ M _ s1 m1 d1 q
theorem okc_listM : OkC X (.type "list") ListMA := fun F ds vs M P H Q m dv h hP => by
  cases h with
  | seq hs q =>
    cases dv with
    | cons d1 d2 =>
      cases d2
      obtain ⟨a, xs, rfl, e, t⟩ := hs.inv m d1
      refine ⟨_, call_list_of, a, xs, rfl, e, fun l hl => ?_⟩
      obtain ⟨s1, m1, n1⟩ := new_mut m hl t
      exact hP _ _ _ _ s1 m1 (.ref _) (q l n1)
/-- int(x), str(n), sorted texts, sorted ints -/
inductive IntA : AC
  | int {i : Int} {M : Mem} {P : AK} : P (.int i) M → IntA [.int i] M P
  | bl {b : Bool} {M : Mem} {P : AK} : P (.int (if b = true then 1 else 0)) M → IntA [.bl b] M P
theorem okc_int : OkC X (.type "int") IntA := fun F ds vs M P H Q m dv h hP => by
  cases h with
  | int q =>
    cases dv with
    | cons d1 d2 =>
      cases d2; cases d1
      exact ⟨_, call_int1, Or.inl ⟨_, rfl, hP _ _ M H (Step.refl H M) m (.int _) q⟩⟩
  | bl q =>
    cases dv with
    | cons d1 d2 =>
      cases d2; cases d1
      exact ⟨_, call_int1, Or.inr ⟨_, rfl, hP _ _ M H (Step.refl H M) m (.int _) q⟩⟩
inductive StrA : AC
  | int {i : Int} {M : Mem} {P : AK} : i.natAbs.log2 < 1920 → P (.str (toString i)) M → StrA [.int i] M P
theorem okc_str : OkC X (.type "str") StrA := fun F ds vs M P H Q m dv h hP => by
  cases h with
  | int hi q =>
    cases dv with
    | cons d1 d2 =>
      cases d2; cases d1
      exact ⟨_, call_str_int, _, rfl, hi, hP _ _ M H (Step.refl H M) m (.str _) q⟩
inductive SortedA : AC
  | txts {x : D} {ss : List Str} {M : Mem} {P : AK} : LstR M x (ss.map D.str) → ss.length < 64 → (∀ ys : List Str, ys.Perm ss → sortedS ys = true → P (.lst (ys.map D.str)) M) → SortedA [x] M P
theorem okc_sorted : OkC X (.builtin "sorted") SortedA := fun F ds vs M P H Q m dv h hP => by
  cases h with
  | txts hs hl q =>
    cases dv with
    | cons d1 d2 =>
      cases d2
      obtain ⟨a, xs, rfl, e, t⟩ := hs.inv m d1
      have := DVs.strs t rfl
      subst this
      refine ⟨_, cr_sortedS, a, _, rfl, e, hl, fun ys p hp hs hn => ?_⟩
      obtain ⟨s1, m1, d1⟩ := new_lst (X := X) m hn (dvs_strs (bs := ys))
      exact hP _ _ M _ s1 m1 d1 (q ys hp hs)

/-! ### isinstance -/
/-- the type that a thing has -/
inductive TyA (M : Mem) : D → String → Prop
  | non : TyA M .non "NoneType"
  | bl {b : Bool} : TyA M (.bl b) "bool"
  | int {i : Int} : TyA M (.int i) "int"
  | str {s : Str} : TyA M (.str s) "str"
  | tup {l : List D} : TyA M (.tup l) "tuple"
  | tpn {l : List D} : TyA M (.tpn l) "tuple"
  | lst {l : List D} : TyA M (.lst l) "list"
  | lsk {l : List D} : TyA M (.lsk l) "list"
  | dic {l : List (Key × D)} : TyA M (.dic l) "dict"
  | mlst {a : Addr} {l : List D} : (a, MO.lst l) ∈ M → TyA M (.ref a) "list"
theorem TyA.tyx {F : List Addr} {H : Hp} {M : Mem} {d : D} {n : String} {v : V} (h : TyA M d n) (m : MSt X.K H F M) (dv : DV X.K H (um F M) v d) : TyX X.K H v (.type n) := by
  cases h with
  | non => cases dv; exact .base .non
  | bl => cases dv; exact .base (.bl _)
  | int => cases dv; exact .base (.int _)
  | str => cases dv; exact .base (.str _)
  | tup =>
    obtain ⟨a, xs, rfl, hs, t⟩ := dv.tup_inv
    rcases hs with (hs | ⟨o, hs⟩) | ⟨o, its, n, hk, hc, _⟩
    · exact .base (.tup hs)
    · exact .fTuple hs
    · exact .kTuple hk hc
  | tpn =>
    cases dv with
    | tpn h hd hn t => exact .fTuple h
    | tpnK h1 h2 h3 h t => exact .kTuple h1 h2
  | lst => cases dv with
    | lst h hn t => exact .base (.lst h)
  | lsk =>
    obtain ⟨a, xs, rfl, hs, t⟩ := LstR.inv .sk m dv
    rcases hs with (hs | ⟨o, hs⟩) | ⟨o, its, n, hk, hc, _⟩
    · exact .base (.lst hs)
    · exact .base (.frz hs)
    · exact .kList hk hc
  | dic => cases dv with
    | dic h hn t => exact .base (.dK h)
  | mlst hm =>
    cases dv
    obtain ⟨xs, e, _⟩ := m.ok _ hm
    exact .base (.lst e)
inductive IsiA : AC
  | one {x : D} {n c : String} {b : Bool} {M : Mem} {P : AK} : TyA M x n → kitB n c = some b → P (.bl b) M → IsiA [x, .ty c] M P
theorem okc_isi : OkC X (.builtin "isinstance") IsiA := fun F ds vs M P H Q m dv h hP => by
  cases h with
  | one ht hk q =>
    cases dv with
    | cons d1 d2 =>
      cases d2 with
      | cons d2 d3 =>
        cases d3; cases d2
        exact ⟨_, call_isi, _, _, _, _, _, rfl, .ty _, ht.tyx m d1, kit_ty hk, hP _ _ M H (Step.refl H M) m (.bl _) q⟩

/-! ### walks of texts -/
def signs (z : Str) : List D := z.cps.toList.map fun (c : Nat) => D.str ⟨#[c]⟩
def iStrA (te : AE) : AI := fun ρ M P EX => te ρ M (fun d M1 => ∃ z, d = .str z ∧ P (signs z) M1) EX
/-! ### methods -/
abbrev AM := D → List D → Mem → AK → Prop
def OkM (X : Cx) (T id : String) (r : AM) : Prop := ∀ (F : List Addr) (x : D) (v : V) (ds : List D) (vs : List V) (M : Mem) (P : AK) (H : Hp) (Q : VK), MSt X.K H F M → DV X.K H (um F M) v x → DVs X.K H (um F M) vs ds → r x ds M P →
  (∀ z d M' H', Step H M H' M' → MSt X.K H' F M' → DV X.K H' (um F M') z d → P d M' → Q z H') → ∃ rr, MtR X id rr ∧ rr v vs H Q
def anyM (X : Cx) (id : String) : V → List V → Hp → VK → Prop := fun x xs H Q => ∃ rr, MtR X id rr ∧ rr x xs H Q
theorem mt_any : MtR X id (anyM X id) := fun pins s σ H x xs v us Q I r1 r2 ⟨_, h1, h2⟩ => h1 pins s σ H x xs v us Q I r1 r2 h2
/-- the receiver is of the type by its looks, ahead of the arguments -/
inductive RcA (M : Mem) : String → D → Prop
  | str {s : Str} : RcA M "str" (.str s)
  | lst {l : List D} : RcA M "list" (.lst l)
  | lsk {l : List D} : RcA M "list" (.lsk l)
  | mlst {a : Addr} {l : List D} : (a, MO.lst l) ∈ M → RcA M "list" (.ref a)
theorem RcA.ty {F : List Addr} {H : Hp} {M : Mem} {d : D} {T : String} {v : V} (h : RcA M T d) (m : MSt X.K H F M) (dv : DV X.K H (um F M) v d) : tyV X.K T v H := by
  cases h with
  | str => cases dv; rfl
  | lst =>
    obtain ⟨a, xs, rfl, e, t⟩ := LstR.inv .fr m dv
    exact Or.inl ⟨rfl, xs, e⟩
  | lsk =>
    obtain ⟨a, xs, rfl, e, t⟩ := LstR.inv .sk m dv
    exact Or.inl ⟨rfl, xs, e⟩
  | mlst hm =>
    obtain ⟨a, xs, rfl, e, t⟩ := LstR.inv (.mu hm) m dv
    exact Or.inl ⟨rfl, xs, e⟩
def aBM (T : String) (r : AM) (to : AE) (t : AA) : AE := fun ρ M P EX => to ρ M (fun x M1 => RcA M1 T x ∧ t ρ M1 (fun ds M2 => r x ds M2 P) EX) EX
variable {apos cpos : Pos} {name : Str} {to : AE} {rm : AM}
theorem de_bm (pa : PlainAttrs T) (slot : Slot T name id) (hty : typeOf (.builtin id) = pure (.type "method_descriptor")) (hm : OkM X T id rm) (ho : DenE X o to) (ha : DenA X (e :: es) t)
    (hbase : attributeBase o name X.env (eval o X.env) = eval o X.env := by rfl)
    (hfew : ((backTo cpos (starEach (e :: es) X.env)).all (fun x => !x.1) && (backToKw cpos (keywordEach [] X.env)).all (fun x => x.1.isSome) && decide ((e :: es).length + ([] : List Keyword).length + (if ([] : List Keyword).isEmpty then 0 else 1) < 30)) = true := by rfl)
    (hline : (apos.endLine == cpos.line) = true := by rfl) (hs : starEach (e :: es) X.env = (false, eval e X.env) :: starEach es X.env := by rfl) (hplain : (backTo cpos (starEach es X.env)).any (·.1) = false := by rfl) :
    DenE X (.Call (.Attribute o name apos) (e :: es) [] cpos) (aBM T rm to t) :=
  ⟨fun F ρ M P EX W σ H Q S tk h hP hX => (pe_bm pa slot hty mt_any (pe_ew (X := X)) (pa_gw (X := X)) hbase hfew hline hs hplain).ew (ho.run F ρ M _ EX W σ H _ S tk h (fun v x M1 H1 s1 m1 dv q =>
    ⟨q.1.ty m1 dv, ha.run F ρ M1 _ EX W σ H1 _ (S.step s1 m1) tk q.2 (fun vs ds M2 H2 s2 m2 dvs q2 => hm F x v ds vs M2 P H2 Q m2 (dv.step s2) dvs q2 fun z d M' H' st m d' p => hP z d M' H' ((s1.trans s2).trans st) m d' p) (hX.step s1)⟩) hX)⟩
theorem de_bm0 (pa : PlainAttrs T) (slot : Slot T name id) (hty : typeOf (.builtin id) = pure (.type "method_descriptor")) (hm : OkM X T id rm) (ho : DenE X o to)
    (hbase : attributeBase o name X.env (eval o X.env) = eval o X.env := by rfl) (hline : (apos.endLine == cpos.line) = true := by rfl) : DenE X (.Call (.Attribute o name apos) [] [] cpos) (aBM T rm to aNil) :=
  ⟨fun F ρ M P EX W σ H Q S tk h hP hX => (pe_bm0 pa slot hty mt_any (pe_ew (X := X)) hbase hline).ew (ho.run F ρ M _ EX W σ H _ S tk h (fun v x M1 H1 s1 m1 dv q =>
    ⟨q.1.ty m1 dv, hm F x v [] [] M1 P H1 Q m1 dv .nil q.2 fun z d M' H' st m d' p => hP z d M' H' (s1.trans st) m d' p⟩) hX)⟩
inductive AppA : AM
  | mk {a : Addr} {l : List D} {y : D} {M M' : Mem} {P : AK} : PutM M a (.lst l) (.lst (l ++ [y])) M' → l.length < 100000 → P .non M' → AppA (.ref a) [y] M P
theorem okm_append : OkM X "list" "list.append" AppA := fun F x v ds vs M P H Q m dv dvs h hP => by
  cases h with
  | mk hp hz q =>
    cases dv
    cases dvs with
    | @cons w ws _ _ d1 d2 =>
      cases d2
      obtain ⟨xs, e1, e2⟩ := m.ok _ hp.old
      have st := hp.step (H := H) (ho := .lst (xs ++ [w]))
      have m2 := hp.mst (ho := .lst (xs ++ [w])) m ⟨_, upd_same, (e2.step st).append (DVs.one (d1.step st))⟩
      exact ⟨_, mt_append, _, xs, _, rfl, rfl, e1, by rw [e2.length]; exact Nat.lt_of_lt_of_le hz (by decide), hP _ _ _ _ st m2 .non q⟩
inductive PopA : AM
  | mk {a : Addr} {l : List D} {y : D} {M M' : Mem} {P : AK} : PutM M a (.lst l) (.lst l.dropLast) M' → l[l.length - 1]? = some y → P y M' → PopA (.ref a) [] M P
theorem DVs.dropLast {K : PySem.W.Frag} {H : Hp} {U : List Addr} {vs : List V} {ds : List D} (h : DVs K H U vs ds) : DVs K H U vs.dropLast ds.dropLast := by
  rw [List.dropLast_eq_take, List.dropLast_eq_take, h.length]; exact h.take _
theorem okm_pop : OkM X "list" "list.pop" PopA := fun F x v ds vs M P H Q m dv dvs h hP => by
  cases h with
  | mk hp hy q =>
    cases dv; cases dvs
    obtain ⟨xs, e1, e2⟩ := m.ok _ hp.old
    obtain ⟨w, e3, e4⟩ := e2.get hy
    have st := hp.step (H := H) (ho := .lst xs.dropLast)
    have m2 := hp.mst (ho := .lst xs.dropLast) m ⟨_, upd_same, (e2.step st).dropLast⟩
    exact ⟨_, mt_pop, _, xs, w, rfl, rfl, e1, by rw [e2.length]; exact e3, hP _ _ _ _ st m2 (e4.step st) q⟩
inductive JoinA : AM
  | mk {a : Str} {x : D} {ss : List Str} {M : Mem} {P : AK} : SeqR M x (ss.map D.str) → (ss.map (·.length)).sum + ss.length * a.length ≤ 16777216 → P (.str (Txt.join a ss)) M → JoinA (.str a) [x] M P
theorem okm_join : OkM X "str" "str.join" JoinA := fun F x v ds vs M P H Q m dv dvs h hP => by
  cases h with
  | mk hs hz q =>
    cases dv
    cases dvs with
    | cons d1 d2 =>
      cases d2
      obtain ⟨a, xs, rfl, e, t⟩ := hs.inv m d1
      have := DVs.strs t rfl
      subst this
      exact ⟨_, mt_join, _, a, _, rfl, rfl, e, hz, hP _ _ M H (Step.refl H M) m (.str _) q⟩

/-! ### truth -/
inductive TruA (M : Mem) : D → Bool → Prop
  | non : TruA M .non false
  | bl {b : Bool} : TruA M (.bl b) b
  | int {i : Int} : TruA M (.int i) (i != 0)
  | str {s : Str} : s.length ≤ 100000 → TruA M (.str s) ((s.length : Int) != 0)
  | seq {x : D} {l : List D} : SeqR M x l → TruA M x (!l.isEmpty)
def aTru (te : AE) : AT := fun ρ M P EX => te ρ M (fun d M1 => ∃ b, TruA M1 d b ∧ P b M1) EX
theorem dt_tru (h : DenE X e te) (he : ∀ whole, isTrue e X.env whole = (do let v ← whole; standAt e.pos; holding [v] (truthy v)) := by intro _; rfl) : DenT X e (aTru te) :=
  ⟨fun F ρ M P EX W σ H Q S tk q hP hX => (pt_truth (pe_ew (X := X)) he).tw (h.run F ρ M _ EX W σ H _ S tk q (fun v d M1 H1 s1 m1 dv p => by
    obtain ⟨b, hb, p⟩ := p
    refine ⟨b, ?_, hP b M1 H1 s1 m1 p⟩
    cases hb with
    | non => cases dv; rfl
    | bl => cases dv; rfl
    | int => cases dv; rfl
    | str hz => cases dv; exact ⟨sz hz, rfl⟩
    | seq hs =>
      obtain ⟨a, xs, rfl, e, t⟩ := hs.inv m1 dv
      have el : ∀ {l : List D}, DVs X.K H1 (um F M1) xs l → (!l.isEmpty) = !xs.isEmpty := fun t => by cases t <;> rfl
      rcases e with e | e
      · exact Or.inl ⟨xs, e, el t⟩
      · exact Or.inr (Or.inl ⟨xs, e, el t⟩)) hX)⟩

/-! ### xs[i] = e -/
def gSetL (to ti : AE) : AG := fun d ρ M P => to ρ M (fun o M1 => ti ρ M1 (fun i M2 => ∃ a l j k M3, o = .ref a ∧ i = .int j ∧ ixN l.length j = some k ∧ PutM M2 a (.lst l) (.lst (l.set k d)) M3 ∧ P ρ M3) noX) noX
theorem dg_sub {o i : Expr} {ti : AE} (ho : DenE X o to) (hi : DenE X i ti)
    (ha : ∀ v, assign (.Subscript o i pos) X.env v = (do
        let ov ← holding [v] (eval o X.env)
        let iv ← holding [v, ov] (eval i X.env)
        standAt pos
        holding [v, ov, iv] (setItem ov iv v)
        release [v, ov, iv] []) := by intro _; rfl) : DenG X (.Subscript o i pos) [] (gSetL to ti) :=
  ⟨fun F v d ρ M P W σ H Q S dv tk h hP => fun pins s u I r => by
    refine (pg_sub (t := rSetL) (pe_ew (X := X)) (pe_ew (X := X)) set_list ha).run pins s σ H v u Q I r ?_
    refine ho.run F ρ M _ noX W σ H _ S tk h (fun w x M1 H1 s1 m1 dw h1 => hi.run F ρ M1 _ noX W σ H1 _ (S.step s1 m1) tk h1 (fun w' y M2 H2 s2 m2 dw' h2 => ?_) (fun _ _ _ _ _ _ _ _ z => z.elim)) (fun _ _ _ _ _ _ _ _ z => z.elim)
    obtain ⟨a, l, j, k, M3, rfl, rfl, hk, hp, q⟩ := h2
    cases dw; cases dw'
    obtain ⟨xs, e1, e2⟩ := m2.ok _ hp.old
    have st := hp.step (H := H2) (ho := .lst (xs.set k v))
    have m3 := hp.mst (ho := .lst (xs.set k v)) m2 ⟨_, upd_same, DVs.set (((dv.step s1).step s2).step st) k (e2.step st)⟩
    exact ⟨a, xs, j, k, rfl, rfl, e1, by rw [e2.length]; exact hk, hP ρ M3 σ _ ((s1.trans s2).trans st) (S.step ((s1.trans s2).trans st) m3) OutEq.refl q⟩⟩
/-! ### x op= e, xs[i] op= e -/
def aAug (i : Nat) (r : A2) (te : AE) : AS := fun ρ M k => ∃ x, gS ρ i = some x ∧ te ρ M (fun y M1 => r x y M1 (fun z M2 => k.nx (sS ρ i z) M2)) (fun x M' => k.ex x ρ M')
inductive IAddA : A2
  | int {i j : Int} {M : Mem} {P : AK} : P (.int (i + j)) M → IAddA (.int i) (.int j) M P
inductive ISubA : A2
  | int {i j : Int} {M : Mem} {P : AK} : P (.int (i - j)) M → ISubA (.int i) (.int j) M P
theorem ds_augAdd (i : Nat) {x : Str} {pos' : Pos} (hN : X.N.Nodup) (he : DenE X e te) (hi : X.N[i]? = some x := by rfl) (hx : Loc X.env.scope x := by first | exact Or.inl rfl | exact Or.inr rfl) (hf : X.fn x = true ∨ X.env.scope.names.lookup x = some .local := by first | exact .inl rfl | exact .inr rfl | assumption) :
    DenS X (.AugAssign (.Name x pos') .Add e pos) (aAug i IAddA te) :=
  ⟨fun F ρ M k W σ H D S tk h L => fun pins s I => (ps_aug hN hi hx (pe_ew (X := X)) ip_add hf).run pins s σ H D I (by
    obtain ⟨d, e1, h⟩ := h
    obtain ⟨v, e2, dv⟩ := S.sl.at_ i d (gS_get e1)
    refine ⟨v, e2, he.run F ρ M _ _ W σ H _ S tk h (fun w y M1 H1 s1 m1 dw q => ?_) (L.lx S)⟩
    cases q with
    | int q =>
      cases dv; cases dw
      exact ⟨_, _, rfl, rfl, L.nx _ M1 _ H1 s1 ⟨by rw [sS_set]; exact (S.sl.step s1).set (.int _) i, m1⟩ q⟩)⟩
theorem ds_augSub (i : Nat) {x : Str} {pos' : Pos} (hN : X.N.Nodup) (he : DenE X e te) (hi : X.N[i]? = some x := by rfl) (hx : Loc X.env.scope x := by first | exact Or.inl rfl | exact Or.inr rfl) (hf : X.fn x = true ∨ X.env.scope.names.lookup x = some .local := by first | exact .inl rfl | exact .inr rfl | assumption) :
    DenS X (.AugAssign (.Name x pos') .Sub e pos) (aAug i ISubA te) :=
  ⟨fun F ρ M k W σ H D S tk h L => fun pins s I => (ps_aug hN hi hx (pe_ew (X := X)) ip_sub hf).run pins s σ H D I (by
    obtain ⟨d, e1, h⟩ := h
    obtain ⟨v, e2, dv⟩ := S.sl.at_ i d (gS_get e1)
    refine ⟨v, e2, he.run F ρ M _ _ W σ H _ S tk h (fun w y M1 H1 s1 m1 dw q => ?_) (L.lx S)⟩
    cases q with
    | int q =>
      cases dv; cases dw
      exact ⟨_, _, rfl, rfl, L.nx _ M1 _ H1 s1 ⟨by rw [sS_set]; exact (S.sl.step s1).set (.int _) i, m1⟩ q⟩)⟩
def rGetL (K : PySem.W.Frag) : V → V → Hp → VK → Prop := fun x y H Q => ∃ (p : Addr) (xs : List V) (j : Nat) (v : V), x = V.ref p ∧ y = V.int (j : Int) ∧ SqL K H p xs ∧ xs[j]? = some v ∧ Q v H
theorem get_list : PGet X (rGetL X.K) := by
  intro pins s σ H x y u w Q I rx ry h
  obtain ⟨p, xs, j, z, rfl, rfl, hs, hz, q⟩ := h
  cases rx
  obtain ⟨t, rfl⟩ := ry
  obtain ⟨its, r, pl, hl⟩ := I.list hs
  obtain ⟨u, eu, ru⟩ := r.get hz
  have hj : j < xs.length := (List.getElem?_eq_some_iff.mp hz).1
  have h63 := line63
  refine wpAny_getItem_list pl.isList (by omega) (by omega) (x := u) (by simpa using eu) ⟨z, H, I, ru, q⟩
/-- xs[i] += e over ints, xs in memory -/
def aAugS (neg : Bool) (to ti te : AE) : AS := fun ρ M k => to ρ M (fun o M1 => ti ρ M1 (fun i M2 => ∃ (a : Addr) (l : List D) (j : Nat) (c : Int), o = .ref a ∧ i = .int (j : Int) ∧ (a, MO.lst l) ∈ M2 ∧ l[j]? = some (.int c) ∧
  te ρ M2 (fun y M3 => ∃ c2 M4, y = .int c2 ∧ PutM M3 a (.lst l) (.lst (l.set j (.int (if neg = true then c - c2 else c + c2)))) M4 ∧ k.nx ρ M4) (fun x M' => k.ex x ρ M')) (fun x M' => k.ex x ρ M')) (fun x M' => k.ex x ρ M')
theorem ixN_nat' {n j : Nat} (hj : j < n) : ixN n (j : Int) = some j := by
  unfold ixN
  rw [if_pos (by omega), if_pos (by omega)]
  simp
theorem ds_augS {o i : Expr} {ti : AE} {tpos : Pos} (neg : Bool) {op : Operator} (hop : op = if neg = true then .Sub else .Add) (ho : DenE X o to) (hi : DenE X i ti) (he : DenE X e te)
    (ha : ∀ ov iv new, augStore i ov iv new = (do holding [new, ov, iv] (setItem ov iv new); release [new, ov, iv] []; pure .next) := by intros; rfl) :
    DenS X (.AugAssign (.Subscript o i tpos) op e pos) (aAugS neg to ti te) :=
  ⟨fun F ρ M k W σ H D S tk h L => fun pins s I => by
    have ip : PIp X op (ipI fun i j => if neg = true then i - j else i + j) := by
      cases neg with
      | true => rw [hop]; exact ip_sub
      | false => rw [hop]; exact ip_add
    refine (ps_augS (pe_ew (X := X)) (pe_ew (X := X)) get_list (pe_ew (X := X)) ip set_list ha).run pins s σ H D I ?_
    refine ho.run F ρ M _ _ W σ H _ S tk h (fun v1 x M1 H1 s1 m1 d1 h1 => hi.run F ρ M1 _ _ W σ H1 _ (S.step s1 m1) tk h1 (fun v2 y M2 H2 s2 m2 d2 h2 => ?_) ((L.step s1).lx (S.step s1 m1))) (L.lx S)
    obtain ⟨a, l, j, c, rfl, rfl, hm, hj, q⟩ := h2
    cases d1; cases d2
    obtain ⟨xs, e1, e2⟩ := m2.ok _ hm
    obtain ⟨z, e3, dz⟩ := e2.get hj
    cases dz
    have s12 := s1.trans s2
    refine ⟨a, xs, j, _, rfl, rfl, SqL.of e1, e3, he.run F ρ M2 _ _ W σ H2 _ (S.step s12 m2) tk q (fun v3 y M3 H3 s3 m3 d3 q3 => ?_) ((L.step s12).lx (S.step s12 m2))⟩
    obtain ⟨c2, M4, rfl, hp, q4⟩ := q3
    cases d3
    obtain ⟨ys, f1, f2⟩ := m3.ok _ hp.old
    have hlt : j < l.length := (List.getElem?_eq_some_iff.mp hj).1
    have st := hp.step (H := H3) (ho := .lst (ys.set j (.int (if neg = true then c - c2 else c + c2))))
    have m4 := hp.mst (ho := .lst (ys.set j (.int (if neg = true then c - c2 else c + c2)))) m3 ⟨_, upd_same, DVs.set (.int _) j (f2.step st)⟩
    exact ⟨c, c2, rfl, rfl, a, ys, (j : Int), j, rfl, rfl, f1, by rw [f2.length]; exact ixN_nat' hlt, L.nx ρ M4 σ _ ((s12.trans s3).trans st) (S.step ((s12.trans s3).trans st) m4) q4⟩⟩

/-! ### an object of memory becomes data, or stays -/
inductive FrzA : D → Mem → AK → Prop
  | lst {a : Addr} {l : List D} {M Mr : Mem} {P : AK} : Split M [(a, .lst l)] Mr → P (.lst l) Mr → FrzA (.ref a) M P
  | obj {a C : Addr} {fs : List (Str × D)} {M Mr : Mem} {P : AK} : Split M [(a, .ins C fs)] Mr → P (.obj C fs) Mr → FrzA (.ref a) M P
  | keep {d : D} {M : Mem} {P : AK} : P d M → FrzA d M P
def aFrz (te : AE) : AE := fun ρ M P EX => te ρ M (fun d M1 => FrzA d M1 P) EX
theorem de_frz (he : DenE X e te) : DenE X e (aFrz te) :=
  ⟨fun F ρ M P EX W σ H Q S tk h hP hX => he.run F ρ M _ EX W σ H Q S tk h (fun v d M1 H1 s1 m1 dv q => by
    cases q with
    | lst hs q =>
      cases dv
      obtain ⟨m2, s2, o2, n2⟩ := split_one m1 hs
      exact hP _ _ _ H1 (s1.trans s2) m2 (o2.lst' n2) q
    | obj hs q =>
      cases dv
      obtain ⟨m2, s2, o2, n2⟩ := split_one m1 hs
      exact hP _ _ _ H1 (s1.trans s2) m2 (o2.obj n2) q
    | keep q => exact hP _ _ _ H1 s1 m1 dv q) hX⟩
end
end Ab
set_option maxRecDepth 100000
set_option maxHeartbeats 2000000
/-! Ab9: readings step by step; defs by name. -/
namespace Ab
open PySem L2 PyProof.Rows

/-! ### a def by its name -/
structure Fn1 (P : Program) (w : World) (K : PySem.W.Frag) (mg : Str → Option Value) (base : Heap) (x : Str) (k : Nat) (ks : List Str) (n m : Nat) (g : List D → List D → List D) (S : ASp) : Prop where
  ex : ∃ (f : Addr) (fd : FuncData) (ps : List Str), FnOk P w K mg base (L2.CX P w) k f fd ps (spOf K S) ∧ mg x = some (.ref f) ∧ PySem.W.keepIn K (.ref f) = true ∧ KB K fd ps ks n m g
/-- a method of the class at C -/
structure Mt1 (P : Program) (w : World) (K : PySem.W.Frag) (mg : Str → Option Value) (base : Heap) (C : Addr) (x : Str) (k : Nat) (ks : List Str) (n m : Nat) (g : List D → List D → List D) (S : ASp) : Prop where
  ex : ∃ (f : Addr) (fd : FuncData) (ps : List Str), FnOk P w K mg base (L2.CX P w) k f fd ps (spOf K S) ∧ Cls K C ∧ Meth K C x f ∧ KB K fd ps ks n m g
/-- a class and its __init__ -/
structure Mk1 (P : Program) (w : World) (K : PySem.W.Frag) (mg : Str → Option Value) (base : Heap) (x : Str) (C : Addr) (k : Nat) (ks : List Str) (n m : Nat) (g : List D → List D → List D) (S : ASp) : Prop where
  ex : ∃ (f : Addr) (fd : FuncData) (ps : List Str), FnOk P w K mg base (L2.CX P w) k f fd ps (spOf K S) ∧ Mk K C f ∧ mg x = some (.ref C) ∧ KM K fd ps ks n m g
section
variable {X : Cx} {x m : Str} {k n : Nat} {S : ASp} {g : List D → List D → List D} {p pos apos : Pos} {e o : Expr} {es : List Expr} {t tk' : AA} {ta : AE}
theorem de_f (h : Fn1 X.prog X.w X.K X.mg X.base x k [] n 0 g S) (hr : Room k X.A) (ha : DenA X (e :: es) t)
    (hg : Gl X x := by rfl) (hdb : (x == ("__debug__" : Str)) = false := by decide) (he : starEach (e :: es) X.env = (false, eval e X.env) :: starEach es X.env := by rfl) (hpl : (backTo pos (starEach es X.env)).any (·.1) = false := by rfl) :
    DenE X (.Call (.Name x p) (e :: es) [] pos) (aCall S g n t) := by
  obtain ⟨f, fd, ps, h1, h2, h3, h4⟩ := h.ex
  exact de_call h1 hr h2 h3 h4 ha hg hdb he hpl
theorem de_f0 (h : Fn1 X.prog X.w X.K X.mg X.base x k [] 0 0 g S) (hr : Room k X.A) (hg : Gl X x := by rfl) (hdb : (x == ("__debug__" : Str)) = false := by decide) :
    DenE X (.Call (.Name x p) [] [] pos) (aCall S g 0 aNil) := by
  obtain ⟨f, fd, ps, h1, h2, h3, h4⟩ := h.ex
  exact de_call0 h1 hr h2 h3 h4 hg hdb
theorem de_fk {kws : List Keyword} {ks : List Str} {m' : Nat} (h : Fn1 X.prog X.w X.K X.mg X.base x k ks n m' g S) (hr : Room k X.A) (ha : DenA X (e :: es) t) (hkw : DenK X kws tk')
    (hg : Gl X x := by rfl) (hall : (backToKw pos (keywordEach kws X.env)).all (·.1.isSome) = true := by rfl) (hks : (backToKw pos (keywordEach kws X.env)).filterMap (·.1) = ks := by rfl)
    (hdb : (x == ("__debug__" : Str)) = false := by decide) (he : starEach (e :: es) X.env = (false, eval e X.env) :: starEach es X.env := by rfl)
    (hpl : ((backTo pos (starEach (e :: es) X.env)).any (·.1) || (backToKw pos (keywordEach kws X.env)).any (·.1.isNone)) = false := by rfl) :
    DenE X (.Call (.Name x p) (e :: es) kws pos) (aCallK S g n m' t tk') := by
  obtain ⟨f, fd, ps, h1, h2, h3, h4⟩ := h.ex
  exact de_callK h1 hr h2 h3 h4 ha hkw hg hall hks hdb he hpl
theorem de_m {C : Addr} {pl : Sem Bool} (h : Mt1 X.prog X.w X.K X.mg X.base C m k [] n 0 g S) (hr : Room k X.A) (ho : DenE X o ta) (ha : DenA X (e :: es) t)
    (hst : starEach (e :: es) X.env = (false, eval e X.env) :: starEach es X.env := by rfl) (hpl : (backTo pos (starEach es X.env)).any (·.1) = false := by rfl)
    (ht : eval (.Call (.Attribute o m apos) (e :: es) [] pos) X.env = (do
        let ov ← eval o X.env
        standAt apos.atName
        let (f, first) ← holding [ov] (getMethod ov m pl)
        callWith pos f first (backTo pos (starEach (e :: es) X.env)) (backToKw pos (keywordEach [] X.env))) := by rfl) :
    DenE X (.Call (.Attribute o m apos) (e :: es) [] pos) (aMeth C m S g n 0 ta t aNil) := by
  obtain ⟨f, fd, ps, h1, h2, h3, h4⟩ := h.ex
  exact de_meth (pl := pl) h2 h3 h1 hr h4 ho ha hst hpl ht
theorem de_m0 {C : Addr} {pl : Sem Bool} (h : Mt1 X.prog X.w X.K X.mg X.base C m k [] 1 0 g S) (hr : Room k X.A) (ho : DenE X o ta)
    (ht : eval (.Call (.Attribute o m apos) [] [] pos) X.env = (do
        let ov ← eval o X.env
        standAt apos.atName
        let (f, first) ← holding [ov] (getMethod ov m pl)
        callWith pos f first (backTo pos (starEach [] X.env)) (backToKw pos (keywordEach [] X.env))) := by rfl) :
    DenE X (.Call (.Attribute o m apos) [] [] pos) (aMeth C m S g 1 0 ta aNil aNil) := by
  obtain ⟨f, fd, ps, h1, h2, h3, h4⟩ := h.ex
  exact de_meth0 (pl := pl) h2 h3 h1 hr h4 ho ht
theorem de_k {C : Addr} {kws : List Keyword} {ks : List Str} {n2 : Nat} (mt : Bool) (h : Mk1 X.prog X.w X.K X.mg X.base x C k ks n n2 g S) (hr : Room (k + 1) X.A) (ha : DenA X (e :: es) t) (hkw : DenK X kws tk')
    (hg : Gl X x := by rfl) (hall : (backToKw pos (keywordEach kws X.env)).all (·.1.isSome) = true := by rfl) (hks : (backToKw pos (keywordEach kws X.env)).filterMap (·.1) = ks := by rfl)
    (hdb : (x == ("__debug__" : Str)) = false := by decide) (he : starEach (e :: es) X.env = (false, eval e X.env) :: starEach es X.env := by rfl)
    (hpl : ((backTo pos (starEach (e :: es) X.env)).any (·.1) || (backToKw pos (keywordEach kws X.env)).any (·.1.isNone)) = false := by rfl) :
    DenE X (.Call (.Name x p) (e :: es) kws pos) (aMk mt C S g n n2 t tk') := by
  obtain ⟨f, fd, ps, h1, h2, h3, h4⟩ := h.ex
  exact de_make mt h2 h1 hr h3 h4 ha hkw hg hall hks hdb he hpl
end
/-- every parameter is given by its place -/
theorem kb_plain {K : PySem.W.Frag} {fd : FuncData} {ps : List Str} (n : Nat) (hn : ps.length = n) (h : ∀ (s : Shared) (us : List Value), us.length = ps.length → BindsTo s fd ⟨us, []⟩ (ps.zip us)) : KB K fd ps [] n 0 (fun ds _ => ds) :=
  ⟨fun vs _ => vs, fun us _ => us, fun s us ws _ h1 h2 => h s us (by rw [hn]; exact h1), fun _ _ _ _ _ _ r _ => r, fun _ _ _ _ _ _ _ _ d _ => d⟩
theorem fn1_plain {P : Program} {w : World} {K : PySem.W.Frag} {mg : Str → Option Value} {base : Heap} {x nm qual : Str} {params : Arguments} {body : List Stmt} {scope : Scope} {k n : Nat} {f : Addr} {fd : FuncData} {ps : List Str} {S : ASp} (G : FnOk P w K mg base (L2.CX P w) k f fd ps (spOf K S)) (Fd : FunD K nm qual params body scope [] [] f fd) (hm : mg x = some (.ref f)) (hn : ps.length = n)
    (h : ∀ (kV doc pm : Value) (an : Option Addr) (cdv ct : Value) (us : List Value), us.length = ps.length → bindArgs (PySem.W.fnOf nm qual params body scope .none kV doc pm an cdv ct) ⟨us, []⟩ = pure (ps.zip us)) : Fn1 P w K mg base x k [] n 0 (fun ds _ => ds) S :=
  ⟨f, fd, ps, G, hm, Fd.kp, kb_plain n hn fun s us hl => Fd.bindsA h s us hl⟩
theorem mt1_plain {P : Program} {w : World} {K : PySem.W.Frag} {mg : Str → Option Value} {base : Heap} {C : Addr} {x nm qual : Str} {params : Arguments} {body : List Stmt} {scope : Scope} {k n : Nat} {f : Addr} {fd : FuncData} {ps : List Str} {S : ASp} (G : FnOk P w K mg base (L2.CX P w) k f fd ps (spOf K S)) (Fd : FunD K nm qual params body scope [] [] f fd) (c : Cls K C) (hm : Meth K C x f) (hn : ps.length = n)
    (h : ∀ (kV doc pm : Value) (an : Option Addr) (cdv ct : Value) (us : List Value), us.length = ps.length → bindArgs (PySem.W.fnOf nm qual params body scope .none kV doc pm an cdv ct) ⟨us, []⟩ = pure (ps.zip us)) : Mt1 P w K mg base C x k [] n 0 (fun ds _ => ds) S :=
  ⟨f, fd, ps, G, c, hm, kb_plain n hn fun s us hl => Fd.bindsA h s us hl⟩

/-! ### readings, step by step -/
section
variable {ρ : Rho} {M : Mem} {P : AK} {EX : XKA} {k : KE} {t u : AS} {ta tb tc : AE} {r : A2} {PB : Bool → Mem → Prop} {PL : List D → Mem → Prop} {PO' : Option Int → Mem → Prop} {PR : Rho → Mem → Prop}
theorem aSeq_r (h : t ρ M { k with nx := fun ρ' M' => u ρ' M' k }) : aSeq t u ρ M k := h
theorem aNext_r (h : k.nx ρ M) : aNext ρ M k := h
theorem aRet_r (h : ta ρ M k.rt (fun x M' => k.ex x ρ M')) : aRet ta ρ M k := h
theorem aRetN_r (h : k.rt .non M) : aRetN ρ M k := h
theorem aDrop_r (h : ta ρ M (fun _ M' => k.nx ρ M') (fun x M' => k.ex x ρ M')) : aDrop ta ρ M k := h
theorem aIfS_r {c : AT} (h : c ρ M (fun b M1 => (b = true → t ρ M1 k) ∧ (b = false → u ρ M1 k)) (fun x M' => k.ex x ρ M')) : aIfS c t u ρ M k := h
theorem aAsg_r {g : AG} (h : ta ρ M (fun d M' => g d ρ M' k.nx) (fun x M' => k.ex x ρ M')) : aAsg ta g ρ M k := h
theorem aBin_r (h : ta ρ M (fun x M1 => tb ρ M1 (fun y M2 => r x y M2 P) EX) EX) : aBin r ta tb ρ M P EX := h
theorem aChain_r {r' : A2} (h : ta ρ M (fun x M1 => tb ρ M1 (fun y M2 => r x y M2 fun z M3 => ∃ k, z = .bl k ∧ (k = true → tc ρ M3 (fun w M4 => r' y w M4 P) EX) ∧ (k = false → P (.bl false) M3)) EX) EX) : aChain r r' ta tb tc ρ M P EX := h
theorem aUn_r {r : D → Mem → AK → Prop} (h : ta ρ M (fun x M1 => r x M1 P) EX) : aUn r ta ρ M P EX := h
theorem aB_r' (h : ta ρ M (fun d M' => ∃ k, d = .bl k ∧ PB k M') EX) : aB ta ρ M PB EX := h
theorem aTru_r (h : ta ρ M (fun d M1 => ∃ b, TruA M1 d b ∧ PB b M1) EX) : aTru ta ρ M PB EX := h
theorem aAnd_r {c d : AT} (h : c ρ M (fun b M1 => (b = true → d ρ M1 PB EX) ∧ (b = false → PB false M1)) EX) : aAnd c d ρ M PB EX := h
theorem aOr_r {c d : AT} (h : c ρ M (fun b M1 => (b = true → PB true M1) ∧ (b = false → d ρ M1 PB EX)) EX) : aOr c d ρ M PB EX := h
theorem aNot_r {c : AT} (h : c ρ M (fun b M1 => PB (!b) M1) EX) : aNot c ρ M PB EX := h
theorem aAndV_r (h : ta ρ M (fun x M1 => ∃ c, x = .bl c ∧ (c = true → tb ρ M1 P EX) ∧ (c = false → P (.bl false) M1)) EX) : aAndV ta tb ρ M P EX := h
theorem aOrV_r (h : ta ρ M (fun x M1 => ∃ c, x = .bl c ∧ (c = true → P (.bl true) M1) ∧ (c = false → tb ρ M1 P EX)) EX) : aOrV ta tb ρ M P EX := h
theorem aNotV_r (h : ta ρ M (fun x M1 => ∃ c, x = .bl c ∧ P (.bl (!c)) M1) EX) : aNotV ta ρ M P EX := h
theorem aIf_r {c : AT} (h : c ρ M (fun b M1 => (b = true → ta ρ M1 P EX) ∧ (b = false → tb ρ M1 P EX)) EX) : aIf c ta tb ρ M P EX := h
theorem aTup_r {l : AA} (h : l ρ M (fun ds M1 => ds.length ≤ 100000 ∧ P (.tup ds) M1) EX) : aTup l ρ M P EX := h
theorem aLst_r {l : AA} (h : l ρ M (fun ds M1 => ds.length ≤ 100000 ∧ P (.lst ds) M1) EX) : aLst l ρ M P EX := h
theorem aLstM_r {l : AA} (h : l ρ M (fun ds M1 => ds.length ≤ 100000 ∧ ∀ q, q ∉ dom M1 → P (.ref q) (M1 ++ [(q, .lst ds)])) EX) : aLstM l ρ M P EX := h
theorem aNil_r (h : PL [] M) : aNil ρ M PL EX := h
theorem aCons_r {l : AA} (h : ta ρ M (fun x M1 => l ρ M1 (fun xs M2 => PL (x :: xs) M2) EX) EX) : aCons ta l ρ M PL EX := h
theorem aCall_r {S : ASp} {g : List D → List D → List D} {n : Nat} {l : AA} (h : l ρ M (fun ds M1 => ds.length = n ∧ CallM S (g ds []) M1 P EX) EX) : aCall S g n l ρ M P EX := h
theorem aCallK_r {S : ASp} {g : List D → List D → List D} {n m : Nat} {l l2 : AA} (h : l ρ M (fun ds M1 => l2 ρ M1 (fun es M2 => ds.length = n ∧ es.length = m ∧ CallM S (g ds es) M2 P EX) EX) EX) : aCallK S g n m l l2 ρ M P EX := h
theorem aMeth_r {C : Addr} {m : Str} {S : ASp} {g : List D → List D → List D} {n n2 : Nat} {l l2 : AA} (h : ta ρ M (fun d M0 => (∃ fs, InsA M0 d C fs ∧ fs.lookup m = none) ∧ l ρ M0 (fun ds M1 => l2 ρ M1 (fun es M2 => (d :: ds).length = n ∧ es.length = n2 ∧ CallM S (g (d :: ds) es) M2 P EX) EX) EX) EX) : aMeth C m S g n n2 ta l l2 ρ M P EX := h
theorem aMk_r {mt : Bool} {C : Addr} {S : ASp} {g : List D → List D → List D} {n n2 : Nat} {l l2 : AA} (h : l ρ M (fun ds M1 => l2 ρ M1 (fun es M2 => ds.length = n ∧ es.length = n2 ∧ ∀ x, x ∉ dom M2 →
  CallM S (.ref x :: g ds es) ((x, MO.ins C []) :: M2) (fun v M3 => v = .non ∧ (if mt = true then P (.ref x) M3 else ∃ fs Mr, Split M3 [(x, MO.ins C fs)] Mr ∧ P (.obj C fs) Mr)) (fun e M3 => ∃ Mr, (∃ o, Split M3 [(x, o)] Mr) ∧ EX e Mr)) EX) EX) : aMk mt C S g n n2 l l2 ρ M P EX := h
theorem aFld_r {C : Addr} {f : Str} (h : ta ρ M (fun d M1 => ∃ fs v, InsA M1 d C fs ∧ fs.lookup f = some v ∧ P v M1) EX) : aFld C f ta ρ M P EX := h
theorem aSetF_r {C : Addr} {fl : Str} (h : tb ρ M (fun y M1 => ta ρ M1 (fun d M2 => ∃ a fs M3, d = .ref a ∧ PutM M2 a (.ins C fs) (.ins C (putD fl y fs)) M3 ∧ fs.length < 1000 ∧ k.nx ρ M3) (fun x M' => k.ex x ρ M')) (fun x M' => k.ex x ρ M')) : aSetF C fl ta tb ρ M k := h
theorem aRaise_r {x : Exc} (h : k.ex x ρ M) : aRaise x ρ M k := h
theorem aCB_r {c : AC} {l : AA} (h : l ρ M (fun ds M1 => c ds M1 P) EX) : aCB c l ρ M P EX := h
theorem aBM_r {T : String} {c : AM} {l : AA} (h : ta ρ M (fun x M1 => RcA M1 T x ∧ l ρ M1 (fun ds M2 => c x ds M2 P) EX) EX) : aBM T c ta l ρ M P EX := h
theorem aSl_r {lo hi : AO} (h : ta ρ M (fun x M1 => lo ρ M1 (fun l M2 => hi ρ M2 (fun u M3 => SlA x l u M3 P) EX) EX) EX) : aSl ta lo hi ρ M P EX := h
theorem aNoPart_r (h : PO' none M) : aNoPart ρ M PO' EX := h
theorem aPart_r (h : ta ρ M (fun d M1 => ∃ i, d = .int i ∧ PO' (some i) M1) EX) : aPart ta ρ M PO' EX := h
theorem aFor_r {ai : AI} {g : AG} (h : ai ρ M (fun xs M1 => LoopA g t k xs ρ M1) (fun x M' => k.ex x ρ M')) : aFor ai g t ρ M k := h
theorem iLstA_r (h : ta ρ M (fun d M1 => ∃ l, (d = .lst l ∨ d = .lsk l) ∧ PL l M1) EX) : iLstA ta ρ M PL EX := h
theorem iTupA_r (h : ta ρ M (fun d M1 => ∃ l, d = .tup l ∧ PL l M1) EX) : iTupA ta ρ M PL EX := h
theorem iRngA1_r {l : AA} (h : l ρ M (fun ds M1 => ∃ j : Int, ds = [.int j] ∧ -(2 ^ 62) ≤ j ∧ j < 2 ^ 62 ∧ PL (rngD 0 j.toNat) M1) EX) : iRngA1 l ρ M PL EX := h
theorem iRngA2_r {l : AA} (h : l ρ M (fun ds M1 => ∃ i j : Int, ds = [.int i, .int j] ∧ (-(2 ^ 62) ≤ i ∧ i < 2 ^ 62 ∧ -(2 ^ 62) ≤ j ∧ j < 2 ^ 62) ∧ PL (rngD i (j - i).toNat) M1) EX) : iRngA2 l ρ M PL EX := h
theorem aLcL_r {vs : List Nat} {ai : AI} {g : AG} {tt : AT} {R : List D → Mem → AK → Prop} (h : ai ρ M (fun xs M1 => LcA vs g tt ta xs ρ M1 (fun acc M2 => R acc M2 P)) EX) : aLcL vs ai g tt ta R ρ M P EX := h
theorem aFrz_r (h : ta ρ M (fun d M1 => FrzA d M1 P) EX) : aFrz ta ρ M P EX := h
theorem aAug_r {i : Nat} {x : D} (e : gS ρ i = some x) (h : ta ρ M (fun y M1 => r x y M1 (fun z M2 => k.nx (sS ρ i z) M2)) (fun x M' => k.ex x ρ M')) : aAug i r ta ρ M k := ⟨x, e, h⟩
theorem gSetL_r {to ti : AE} {d : D} (h : to ρ M (fun o M1 => ti ρ M1 (fun i M2 => ∃ a l j k M3, o = .ref a ∧ i = .int j ∧ ixN l.length j = some k ∧ PutM M2 a (.lst l) (.lst (l.set k d)) M3 ∧ PR ρ M3) noX) noX) : gSetL to ti d ρ M PR := h
theorem gTupA_r {n : Nat} {gs : AGs} {ds : List D} (hl : ds.length = n) (h : gs ds ρ M PR) : gTupA n gs (.tup ds) ρ M PR := ⟨ds, rfl, hl, h⟩
theorem gConsA_r {g : AG} {gs : AGs} {d : D} {ds : List D} (h : g d ρ M (fun ρ' M' => gs ds ρ' M' PR)) : gConsA g gs (d :: ds) ρ M PR := ⟨d, ds, rfl, h⟩
theorem gNilA_r (h : PR ρ M) : gNilA [] ρ M PR := ⟨rfl, h⟩
variable {d : D} {a0 a1 a2 a3 a4 a5 a6 a7 a8 a9 a10 a11 a12 a13 a14 a15 a16 a17 a18 a19 : Option D} {rr : Rho}
theorem gN0 (h : PR (some d :: rr) M) : gNameA 0 d (a0 :: rr) M PR := h
theorem gN1 (h : PR (a0 :: some d :: rr) M) : gNameA 1 d (a0 :: a1 :: rr) M PR := h
theorem gN2 (h : PR (a0 :: a1 :: some d :: rr) M) : gNameA 2 d (a0 :: a1 :: a2 :: rr) M PR := h
theorem gN3 (h : PR (a0 :: a1 :: a2 :: some d :: rr) M) : gNameA 3 d (a0 :: a1 :: a2 :: a3 :: rr) M PR := h
theorem gN4 (h : PR (a0 :: a1 :: a2 :: a3 :: some d :: rr) M) : gNameA 4 d (a0 :: a1 :: a2 :: a3 :: a4 :: rr) M PR := h
theorem gN5 (h : PR (a0 :: a1 :: a2 :: a3 :: a4 :: some d :: rr) M) : gNameA 5 d (a0 :: a1 :: a2 :: a3 :: a4 :: a5 :: rr) M PR := h
theorem gN6 (h : PR (a0 :: a1 :: a2 :: a3 :: a4 :: a5 :: some d :: rr) M) : gNameA 6 d (a0 :: a1 :: a2 :: a3 :: a4 :: a5 :: a6 :: rr) M PR := h
theorem gN7 (h : PR (a0 :: a1 :: a2 :: a3 :: a4 :: a5 :: a6 :: some d :: rr) M) : gNameA 7 d (a0 :: a1 :: a2 :: a3 :: a4 :: a5 :: a6 :: a7 :: rr) M PR := h
theorem gN8 (h : PR (a0 :: a1 :: a2 :: a3 :: a4 :: a5 :: a6 :: a7 :: some d :: rr) M) : gNameA 8 d (a0 :: a1 :: a2 :: a3 :: a4 :: a5 :: a6 :: a7 :: a8 :: rr) M PR := h
theorem gN9 (h : PR (a0 :: a1 :: a2 :: a3 :: a4 :: a5 :: a6 :: a7 :: a8 :: some d :: rr) M) : gNameA 9 d (a0 :: a1 :: a2 :: a3 :: a4 :: a5 :: a6 :: a7 :: a8 :: a9 :: rr) M PR := h
theorem gN10 (h : PR (a0 :: a1 :: a2 :: a3 :: a4 :: a5 :: a6 :: a7 :: a8 :: a9 :: some d :: rr) M) : gNameA 10 d (a0 :: a1 :: a2 :: a3 :: a4 :: a5 :: a6 :: a7 :: a8 :: a9 :: a10 :: rr) M PR := h
theorem gN11 (h : PR (a0 :: a1 :: a2 :: a3 :: a4 :: a5 :: a6 :: a7 :: a8 :: a9 :: a10 :: some d :: rr) M) : gNameA 11 d (a0 :: a1 :: a2 :: a3 :: a4 :: a5 :: a6 :: a7 :: a8 :: a9 :: a10 :: a11 :: rr) M PR := h
theorem gN12 (h : PR (a0 :: a1 :: a2 :: a3 :: a4 :: a5 :: a6 :: a7 :: a8 :: a9 :: a10 :: a11 :: some d :: rr) M) : gNameA 12 d (a0 :: a1 :: a2 :: a3 :: a4 :: a5 :: a6 :: a7 :: a8 :: a9 :: a10 :: a11 :: a12 :: rr) M PR := h
theorem gN13 (h : PR (a0 :: a1 :: a2 :: a3 :: a4 :: a5 :: a6 :: a7 :: a8 :: a9 :: a10 :: a11 :: a12 :: some d :: rr) M) : gNameA 13 d (a0 :: a1 :: a2 :: a3 :: a4 :: a5 :: a6 :: a7 :: a8 :: a9 :: a10 :: a11 :: a12 :: a13 :: rr) M PR := h
theorem gN14 (h : PR (a0 :: a1 :: a2 :: a3 :: a4 :: a5 :: a6 :: a7 :: a8 :: a9 :: a10 :: a11 :: a12 :: a13 :: some d :: rr) M) : gNameA 14 d (a0 :: a1 :: a2 :: a3 :: a4 :: a5 :: a6 :: a7 :: a8 :: a9 :: a10 :: a11 :: a12 :: a13 :: a14 :: rr) M PR := h
theorem gN15 (h : PR (a0 :: a1 :: a2 :: a3 :: a4 :: a5 :: a6 :: a7 :: a8 :: a9 :: a10 :: a11 :: a12 :: a13 :: a14 :: some d :: rr) M) : gNameA 15 d (a0 :: a1 :: a2 :: a3 :: a4 :: a5 :: a6 :: a7 :: a8 :: a9 :: a10 :: a11 :: a12 :: a13 :: a14 :: a15 :: rr) M PR := h
theorem gN16 (h : PR (a0 :: a1 :: a2 :: a3 :: a4 :: a5 :: a6 :: a7 :: a8 :: a9 :: a10 :: a11 :: a12 :: a13 :: a14 :: a15 :: some d :: rr) M) : gNameA 16 d (a0 :: a1 :: a2 :: a3 :: a4 :: a5 :: a6 :: a7 :: a8 :: a9 :: a10 :: a11 :: a12 :: a13 :: a14 :: a15 :: a16 :: rr) M PR := h
theorem gN17 (h : PR (a0 :: a1 :: a2 :: a3 :: a4 :: a5 :: a6 :: a7 :: a8 :: a9 :: a10 :: a11 :: a12 :: a13 :: a14 :: a15 :: a16 :: some d :: rr) M) : gNameA 17 d (a0 :: a1 :: a2 :: a3 :: a4 :: a5 :: a6 :: a7 :: a8 :: a9 :: a10 :: a11 :: a12 :: a13 :: a14 :: a15 :: a16 :: a17 :: rr) M PR := h
theorem gN18 (h : PR (a0 :: a1 :: a2 :: a3 :: a4 :: a5 :: a6 :: a7 :: a8 :: a9 :: a10 :: a11 :: a12 :: a13 :: a14 :: a15 :: a16 :: a17 :: some d :: rr) M) : gNameA 18 d (a0 :: a1 :: a2 :: a3 :: a4 :: a5 :: a6 :: a7 :: a8 :: a9 :: a10 :: a11 :: a12 :: a13 :: a14 :: a15 :: a16 :: a17 :: a18 :: rr) M PR := h
end
/-- a call that sees one object of memory -/
theorem callM_one {S : ASp} {ds : List D} {M Mr : Mem} {p : Addr} {o : MO} {P : AK} {EX : XKA} (hs : Split M [(p, o)] Mr) (h : S ds [(p, o)] (fun d Mc => P d (Mc ++ Mr)) (fun x Mc => EX x (Mc ++ Mr))) : CallM S ds M P EX := ⟨_, _, hs, h⟩
theorem callM_none {S : ASp} {ds : List D} {M : Mem} {P : AK} {EX : XKA} (h : S ds [] (fun d Mc => P d (Mc ++ M)) (fun x Mc => EX x (Mc ++ M))) : CallM S ds M P EX := ⟨[], M, Split.none, h⟩
theorem split_head {p : Addr × MO} {M : Mem} : Split (p :: M) [p] M := List.Perm.refl _
theorem split_2 {p q : Addr × MO} {M : Mem} : Split (q :: p :: M) [p] (q :: M) := List.Perm.swap q p M
theorem split_3 {p q r : Addr × MO} {M : Mem} : Split (q :: r :: p :: M) [p] (q :: r :: M) := (List.Perm.swap q p (r :: M)).trans ((List.Perm.swap r p M).cons q)
end Ab
set_option maxRecDepth 100000
set_option maxHeartbeats 2000000
/-! Ab10: walks of texts, enumerate, zip. -/
namespace Ab
open PySem L2 PyProof.Rows
section
variable {X : Cx} {tg e e2 : Expr} {te : AE} {t : AA} {p pos tpos : Pos} {elts : List Expr} {kk : Nat}
theorem signs_get {z : Str} {i : Nat} {d : D} (h : (signs z)[i]? = some d) : ∃ c, z.cps[i]? = some c ∧ d = .str ⟨#[c]⟩ := by
  unfold signs at h
  rw [List.getElem?_map] at h
  cases q : z.cps.toList[i]? with
  | none => rw [q] at h; cases h
  | some c =>
    rw [q] at h
    cases h
    exact ⟨c, by simpa using q, rfl⟩
theorem signs_length {z : Str} : (signs z).length = z.length := by simp [signs, Str.length]
theorem di_str (he : DenE X e te) : DenI X tg e (iStrA te) :=
  ⟨fun F ρ M P EX W σ H R S tk h hP hX => fun pins s I => (pi_str (pe_ew (X := X))).run pins s σ H R I
    (he.run F ρ M _ EX W σ H _ S tk h (fun v d M1 H1 s1 m1 dv q => by
      obtain ⟨z, rfl, q⟩ := q
      cases dv
      refine ⟨z, rfl, hP _ _ M1 H1 s1 m1 (fun F' H' M' s' f' m' => ⟨fun i d e => ?_, by show z.cps.size ≤ _; rw [signs_length]; exact Nat.le_refl _⟩) q⟩
      obtain ⟨c, e1, rfl⟩ := signs_get e
      refine ⟨(Array.getElem?_eq_some_iff.mp e1).1, fun x H2 y => ?_⟩
      obtain ⟨rfl, c', e2, rfl⟩ := y
      rw [e1] at e2
      cases e2
      exact ⟨Step.refl _ _, m', .str _⟩) hX)⟩
/-- (0, x), (1, y), .. -/
def enumD (l : List D) : List D := l.zipIdx.map fun p => .tup [.int (p.2 : Int), p.1]
theorem enumD_length {l : List D} : (enumD l).length = l.length := by simp [enumD]
theorem enumD_get {l : List D} {i : Nat} {d : D} (h : (enumD l)[i]? = some d) : ∃ x, l[i]? = some x ∧ d = .tup [.int (i : Int), x] := by
  unfold enumD at h
  rw [List.getElem?_map, List.getElem?_zipIdx] at h
  cases q : l[i]? with
  | none => rw [q] at h; cases h
  | some x =>
    rw [q] at h
    simp at h
    exact ⟨x, rfl, h.symm⟩
def iEnumA (t : AA) : AI := fun ρ M P EX => t ρ M (fun ds M1 => ∃ d l, ds = [d] ∧ (d = .lst l ∨ d = .lsk l) ∧ P (enumD l) M1) EX
theorem di_enum (hm : X.mg "enumerate" = none) (ha : DenA X [e] t) (hg : Gl X "enumerate" := by rfl) (hs : starEach [e] X.env = [(false, eval e X.env)] := by rfl) : DenI X (.Tuple elts kk tpos) (.Call (.Name "enumerate" p) [e] [] pos) (iEnumA t) :=
  ⟨fun F ρ M P EX W σ H R S tk h hP hX => fun pins s I => (pi_enum hg hm (pa_gw (X := X)) hs).run pins s σ H R I
    (ha.run F ρ M _ EX W σ H _ S tk h (fun vs ds M1 H1 s1 m1 dv q => by
      obtain ⟨d, l, rfl, hd, q⟩ := q
      cases dv with
      | cons d1 d2 =>
        cases d2
        have key : ∀ {a : Addr} {xs : List V}, (∀ F' H' M', StepX F H1 M1 H' M' → FrGo H1 F F' → SqL X.K H' a xs ∧ DVs X.K H' (um F' M') xs l) → ItOk X (Ite X.K a) (enumD l) H1 F M1 := fun {a xs} hh F' H' M' s' f' m' => by
          obtain ⟨h1, h2⟩ := hh F' H' M' s' f'
          refine ⟨fun i d e => ?_, ⟨xs, h1, by rw [enumD_length]; exact Nat.le_of_eq h2.length⟩⟩
          obtain ⟨x, ex, rfl⟩ := enumD_get e
          obtain ⟨v, ev, dx⟩ := h2.get ex
          refine ⟨⟨xs, v, h1, ev⟩, fun y H2 z => ?_⟩
          obtain ⟨T, w, rfl, hT, rfl, hw⟩ := z
          have := hw xs h1
          rw [ev] at this; cases this
          exact new_tup m' hT (.cons (.int _) (DVs.one dx))
        rcases hd with rfl | rfl
        · cases d1 with
          | lst h hn t => exact ⟨_, _, rfl, SqL.of h, hP _ _ M1 H1 s1 m1 (key fun F' H' M' s' f' => ⟨SqL.of (s'.keepU h hn), t.step2X s' f'⟩) q⟩
        · cases d1 with
          | lsk h hn t => exact ⟨_, _, rfl, .inl h, hP _ _ M1 H1 s1 m1 (key fun F' H' M' s' f' => ⟨.inl (s'.rd h hn), t.step2X s' f'⟩) q⟩
          | lskK h t => exact ⟨_, _, rfl, h H1, hP _ _ M1 H1 s1 m1 (key fun F' H' M' s' f' => ⟨h H', t.step2X s' f'⟩) q⟩) hX)⟩
/-- pairs, as far as both go -/
def zipD (l r : List D) : List D := (l.zip r).map fun p => .tup [p.1, p.2]
theorem zipD_length {l r : List D} : (zipD l r).length = min l.length r.length := by simp [zipD]
theorem zipD_get {l r : List D} {i : Nat} {d : D} (h : (zipD l r)[i]? = some d) : ∃ x y, l[i]? = some x ∧ r[i]? = some y ∧ d = .tup [x, y] := by
  unfold zipD at h
  rw [List.getElem?_map] at h
  cases q : (l.zip r)[i]? with
  | none => rw [q] at h; cases h
  | some xy =>
    rw [q] at h
    cases h
    rw [List.getElem?_zip_eq_some] at q
    exact ⟨_, _, q.1, q.2, rfl⟩
/-- both of one kind: tuples, or lists of data -/
def iZipD (t : AA) : AI := fun ρ M P EX => t ρ M (fun ds M1 => ∃ x y l r, ds = [x, y] ∧ ((x = .tup l ∧ y = .tup r) ∨ (x = .lst l ∧ y = .lst r)) ∧ P (zipD l r) M1) EX
theorem DV.seqU {K : PySem.W.Frag} {H : Hp} {F : List Addr} {M : Mem} {v : V} {l : List D} (h : DV K H (um F M) v (.tup l)) : ∃ a xs, v = .ref a ∧ SqT K H a xs ∧ ∀ F' H' M', StepX F H M H' M' → FrGo H F F' → SqT K H' a xs ∧ DVs K H' (um F' M') xs l := by
  cases h with
  | tup h hn t => exact ⟨_, _, rfl, .inl h, fun F' H' M' s' f' => ⟨.inl (s'.rd h hn), t.step2X s' f'⟩⟩
  | tupK h t => exact ⟨_, _, rfl, h H, fun F' H' M' s' f' => ⟨h H', t.step2X s' f'⟩⟩
theorem DV.seqL {K : PySem.W.Frag} {H : Hp} {F : List Addr} {M : Mem} {v : V} {l : List D} (h : DV K H (um F M) v (.lst l)) : ∃ a xs, v = .ref a ∧ SqL K H a xs ∧ ∀ F' H' M', StepX F H M H' M' → FrGo H F F' → SqL K H' a xs ∧ DVs K H' (um F' M') xs l := by
  cases h with
  | lst h hn t => exact ⟨_, _, rfl, SqL.of h, fun F' H' M' s' f' => ⟨SqL.of (s'.keepU h hn), t.step2X s' f'⟩⟩
theorem di_zip (hm : X.mg "zip" = none) (ha : DenA X [e, e2] t) (hg : Gl X "zip" := by rfl) (hs : starEach [e, e2] X.env = (false, eval e X.env) :: starEach [e2] X.env := by rfl) (hpl : (backTo pos (starEach [e2] X.env)).any (·.1) = false := by rfl) : DenI X (.Tuple elts kk tpos) (.Call (.Name "zip" p) [e, e2] [] pos) (iZipD t) :=
  ⟨fun F ρ M P EX W σ H R S tk h hP hX => fun pins s I => (RZ.pi_zipA hg hm (pa_gw (X := X)) hs hpl).run pins s σ H R I
    (ha.run F ρ M _ EX W σ H _ S tk h (fun vs ds M1 H1 s1 m1 dv q => by
      obtain ⟨x, y, l, r, rfl, hd, q⟩ := q
      cases dv with
      | cons d1 d2 =>
        cases d2 with
        | cons d2 d3 =>
          cases d3
          rcases hd with ⟨rfl, rfl⟩ | ⟨rfl, rfl⟩
          · obtain ⟨a, xs, rfl, ha, ka⟩ := d1.seqU
            obtain ⟨b, ys, rfl, hb, kb⟩ := d2.seqU
            refine ⟨a, b, xs, ys, rfl, Or.inr ⟨ha, hb, hP _ _ M1 H1 s1 m1 (fun F' H' M' s' f' m' => ?_) q⟩⟩
            obtain ⟨h1, h2⟩ := ka F' H' M' s' f'
            obtain ⟨h3, h4⟩ := kb F' H' M' s' f'
            refine ⟨fun i d e => ?_, ⟨xs, ys, h1, h3, by rw [zipD_length, h2.length, h4.length]; omega⟩⟩
            obtain ⟨x, y, ex, ey, rfl⟩ := zipD_get e
            obtain ⟨v, ev, dx⟩ := h2.get ex
            obtain ⟨w, ew, dy⟩ := h4.get ey
            refine ⟨⟨xs, ys, v, w, h1, h3, ev, ew⟩, fun z H2 zz => ?_⟩
            obtain ⟨T, v', w', rfl, hT, rfl, hv, hw⟩ := zz
            have e1 := hv xs h1
            have e2 := hw ys h3
            rw [ev] at e1; rw [ew] at e2
            cases e1; cases e2
            exact new_tup m' hT (.cons dx (DVs.one dy))
          · obtain ⟨a, xs, rfl, ha, ka⟩ := d1.seqL
            obtain ⟨b, ys, rfl, hb, kb⟩ := d2.seqL
            refine ⟨a, b, xs, ys, rfl, Or.inl ⟨ha, hb, hP _ _ M1 H1 s1 m1 (fun F' H' M' s' f' m' => ?_) q⟩⟩
            obtain ⟨h1, h2⟩ := ka F' H' M' s' f'
            obtain ⟨h3, h4⟩ := kb F' H' M' s' f'
            refine ⟨fun i d e => ?_, ⟨xs, ys, h1, h3, by rw [zipD_length, h2.length, h4.length]; omega⟩⟩
            obtain ⟨x, y, ex, ey, rfl⟩ := zipD_get e
            obtain ⟨v, ev, dx⟩ := h2.get ex
            obtain ⟨w, ew, dy⟩ := h4.get ey
            refine ⟨⟨xs, ys, v, w, h1, h3, ev, ew⟩, fun z H2 zz => ?_⟩
            obtain ⟨T, v', w', rfl, hT, rfl, hv, hw⟩ := zz
            have e1 := hv xs h1
            have e2 := hw ys h3
            rw [ev] at e1; rw [ew] at e2
            cases e1; cases e2
            exact new_tup m' hT (.cons dx (DVs.one dy))) hX)⟩
end
end Ab
set_option maxRecDepth 100000
set_option maxHeartbeats 2000000
/-! Ab11: the readings run by a tactic. -/
namespace Ab
open PySem L2 PyProof.Rows
section
variable {M : Mem} {P : AK} {EX : XKA} {d : D} {rr : Rho} {PR : Rho → Mem → Prop} {k : KE}
variable {a0 a1 a2 a3 a4 a5 a6 a7 a8 a9 a10 a11 a12 a13 a14 a15 a16 a17 a18 a19 a20 a21 a22 a23 : Option D}
theorem vN0 (h : P d M) : aVar 0 (some d :: rr) M P EX := ⟨d, rfl, h⟩
theorem vN1 (h : P d M) : aVar 1 (a0 :: some d :: rr) M P EX := ⟨d, rfl, h⟩
theorem vN2 (h : P d M) : aVar 2 (a0 :: a1 :: some d :: rr) M P EX := ⟨d, rfl, h⟩
theorem vN3 (h : P d M) : aVar 3 (a0 :: a1 :: a2 :: some d :: rr) M P EX := ⟨d, rfl, h⟩
theorem vN4 (h : P d M) : aVar 4 (a0 :: a1 :: a2 :: a3 :: some d :: rr) M P EX := ⟨d, rfl, h⟩
theorem vN5 (h : P d M) : aVar 5 (a0 :: a1 :: a2 :: a3 :: a4 :: some d :: rr) M P EX := ⟨d, rfl, h⟩
theorem vN6 (h : P d M) : aVar 6 (a0 :: a1 :: a2 :: a3 :: a4 :: a5 :: some d :: rr) M P EX := ⟨d, rfl, h⟩
theorem vN7 (h : P d M) : aVar 7 (a0 :: a1 :: a2 :: a3 :: a4 :: a5 :: a6 :: some d :: rr) M P EX := ⟨d, rfl, h⟩
theorem vN8 (h : P d M) : aVar 8 (a0 :: a1 :: a2 :: a3 :: a4 :: a5 :: a6 :: a7 :: some d :: rr) M P EX := ⟨d, rfl, h⟩
theorem vN9 (h : P d M) : aVar 9 (a0 :: a1 :: a2 :: a3 :: a4 :: a5 :: a6 :: a7 :: a8 :: some d :: rr) M P EX := ⟨d, rfl, h⟩
theorem vN10 (h : P d M) : aVar 10 (a0 :: a1 :: a2 :: a3 :: a4 :: a5 :: a6 :: a7 :: a8 :: a9 :: some d :: rr) M P EX := ⟨d, rfl, h⟩
theorem vN11 (h : P d M) : aVar 11 (a0 :: a1 :: a2 :: a3 :: a4 :: a5 :: a6 :: a7 :: a8 :: a9 :: a10 :: some d :: rr) M P EX := ⟨d, rfl, h⟩
theorem vN12 (h : P d M) : aVar 12 (a0 :: a1 :: a2 :: a3 :: a4 :: a5 :: a6 :: a7 :: a8 :: a9 :: a10 :: a11 :: some d :: rr) M P EX := ⟨d, rfl, h⟩
theorem vN13 (h : P d M) : aVar 13 (a0 :: a1 :: a2 :: a3 :: a4 :: a5 :: a6 :: a7 :: a8 :: a9 :: a10 :: a11 :: a12 :: some d :: rr) M P EX := ⟨d, rfl, h⟩
theorem vN14 (h : P d M) : aVar 14 (a0 :: a1 :: a2 :: a3 :: a4 :: a5 :: a6 :: a7 :: a8 :: a9 :: a10 :: a11 :: a12 :: a13 :: some d :: rr) M P EX := ⟨d, rfl, h⟩
theorem vN15 (h : P d M) : aVar 15 (a0 :: a1 :: a2 :: a3 :: a4 :: a5 :: a6 :: a7 :: a8 :: a9 :: a10 :: a11 :: a12 :: a13 :: a14 :: some d :: rr) M P EX := ⟨d, rfl, h⟩
theorem vN16 (h : P d M) : aVar 16 (a0 :: a1 :: a2 :: a3 :: a4 :: a5 :: a6 :: a7 :: a8 :: a9 :: a10 :: a11 :: a12 :: a13 :: a14 :: a15 :: some d :: rr) M P EX := ⟨d, rfl, h⟩
theorem vN17 (h : P d M) : aVar 17 (a0 :: a1 :: a2 :: a3 :: a4 :: a5 :: a6 :: a7 :: a8 :: a9 :: a10 :: a11 :: a12 :: a13 :: a14 :: a15 :: a16 :: some d :: rr) M P EX := ⟨d, rfl, h⟩
theorem vN18 (h : P d M) : aVar 18 (a0 :: a1 :: a2 :: a3 :: a4 :: a5 :: a6 :: a7 :: a8 :: a9 :: a10 :: a11 :: a12 :: a13 :: a14 :: a15 :: a16 :: a17 :: some d :: rr) M P EX := ⟨d, rfl, h⟩
theorem vN19 (h : P d M) : aVar 19 (a0 :: a1 :: a2 :: a3 :: a4 :: a5 :: a6 :: a7 :: a8 :: a9 :: a10 :: a11 :: a12 :: a13 :: a14 :: a15 :: a16 :: a17 :: a18 :: some d :: rr) M P EX := ⟨d, rfl, h⟩
theorem vN20 (h : P d M) : aVar 20 (a0 :: a1 :: a2 :: a3 :: a4 :: a5 :: a6 :: a7 :: a8 :: a9 :: a10 :: a11 :: a12 :: a13 :: a14 :: a15 :: a16 :: a17 :: a18 :: a19 :: some d :: rr) M P EX := ⟨d, rfl, h⟩
theorem vN21 (h : P d M) : aVar 21 (a0 :: a1 :: a2 :: a3 :: a4 :: a5 :: a6 :: a7 :: a8 :: a9 :: a10 :: a11 :: a12 :: a13 :: a14 :: a15 :: a16 :: a17 :: a18 :: a19 :: a20 :: some d :: rr) M P EX := ⟨d, rfl, h⟩
theorem vN22 (h : P d M) : aVar 22 (a0 :: a1 :: a2 :: a3 :: a4 :: a5 :: a6 :: a7 :: a8 :: a9 :: a10 :: a11 :: a12 :: a13 :: a14 :: a15 :: a16 :: a17 :: a18 :: a19 :: a20 :: a21 :: some d :: rr) M P EX := ⟨d, rfl, h⟩
theorem vN23 (h : P d M) : aVar 23 (a0 :: a1 :: a2 :: a3 :: a4 :: a5 :: a6 :: a7 :: a8 :: a9 :: a10 :: a11 :: a12 :: a13 :: a14 :: a15 :: a16 :: a17 :: a18 :: a19 :: a20 :: a21 :: a22 :: some d :: rr) M P EX := ⟨d, rfl, h⟩
theorem gN19 (h : PR (a0 :: a1 :: a2 :: a3 :: a4 :: a5 :: a6 :: a7 :: a8 :: a9 :: a10 :: a11 :: a12 :: a13 :: a14 :: a15 :: a16 :: a17 :: a18 :: some d :: rr) M) : gNameA 19 d (a0 :: a1 :: a2 :: a3 :: a4 :: a5 :: a6 :: a7 :: a8 :: a9 :: a10 :: a11 :: a12 :: a13 :: a14 :: a15 :: a16 :: a17 :: a18 :: a19 :: rr) M PR := h
theorem gN20 (h : PR (a0 :: a1 :: a2 :: a3 :: a4 :: a5 :: a6 :: a7 :: a8 :: a9 :: a10 :: a11 :: a12 :: a13 :: a14 :: a15 :: a16 :: a17 :: a18 :: a19 :: some d :: rr) M) : gNameA 20 d (a0 :: a1 :: a2 :: a3 :: a4 :: a5 :: a6 :: a7 :: a8 :: a9 :: a10 :: a11 :: a12 :: a13 :: a14 :: a15 :: a16 :: a17 :: a18 :: a19 :: a20 :: rr) M PR := h
theorem gN21 (h : PR (a0 :: a1 :: a2 :: a3 :: a4 :: a5 :: a6 :: a7 :: a8 :: a9 :: a10 :: a11 :: a12 :: a13 :: a14 :: a15 :: a16 :: a17 :: a18 :: a19 :: a20 :: some d :: rr) M) : gNameA 21 d (a0 :: a1 :: a2 :: a3 :: a4 :: a5 :: a6 :: a7 :: a8 :: a9 :: a10 :: a11 :: a12 :: a13 :: a14 :: a15 :: a16 :: a17 :: a18 :: a19 :: a20 :: a21 :: rr) M PR := h
theorem gN22 (h : PR (a0 :: a1 :: a2 :: a3 :: a4 :: a5 :: a6 :: a7 :: a8 :: a9 :: a10 :: a11 :: a12 :: a13 :: a14 :: a15 :: a16 :: a17 :: a18 :: a19 :: a20 :: a21 :: some d :: rr) M) : gNameA 22 d (a0 :: a1 :: a2 :: a3 :: a4 :: a5 :: a6 :: a7 :: a8 :: a9 :: a10 :: a11 :: a12 :: a13 :: a14 :: a15 :: a16 :: a17 :: a18 :: a19 :: a20 :: a21 :: a22 :: rr) M PR := h
theorem gN23 (h : PR (a0 :: a1 :: a2 :: a3 :: a4 :: a5 :: a6 :: a7 :: a8 :: a9 :: a10 :: a11 :: a12 :: a13 :: a14 :: a15 :: a16 :: a17 :: a18 :: a19 :: a20 :: a21 :: a22 :: some d :: rr) M) : gNameA 23 d (a0 :: a1 :: a2 :: a3 :: a4 :: a5 :: a6 :: a7 :: a8 :: a9 :: a10 :: a11 :: a12 :: a13 :: a14 :: a15 :: a16 :: a17 :: a18 :: a19 :: a20 :: a21 :: a22 :: a23 :: rr) M PR := h
theorem bl_r {b : Bool} {PB : Bool → Prop} (h : PB b) : ∃ k, D.bl b = .bl k ∧ PB k := ⟨b, rfl, h⟩
theorem il_fr {l : List D} {PL : List D → Prop} (h : PL l) : ∃ l', (D.lst l = .lst l' ∨ D.lst l = .lsk l') ∧ PL l' := ⟨l, Or.inl rfl, h⟩
theorem il_sk {l : List D} {PL : List D → Prop} (h : PL l) : ∃ l', (D.lsk l = .lst l' ∨ D.lsk l = .lsk l') ∧ PL l' := ⟨l, Or.inr rfl, h⟩
theorem it_r {l : List D} {PL : List D → Prop} (h : PL l) : ∃ l', D.tup l = .tup l' ∧ PL l' := ⟨l, rfl, h⟩
theorem pt_r {i : Int} {PO : Int → Prop} (h : PO i) : ∃ j, D.int i = .int j ∧ PO j := ⟨i, rfl, h⟩
theorem st_r {z : Str} {PL : Str → Prop} (h : PL z) : ∃ z', D.str z = .str z' ∧ PL z' := ⟨z, rfl, h⟩
theorem iStrA_r {ta : AE} {ρ : Rho} {PL : List D → Mem → Prop} (h : ta ρ M (fun d M1 => ∃ z, d = .str z ∧ PL (signs z) M1) EX) : iStrA ta ρ M PL EX := h
theorem iEnumA_r {t : AA} {ρ : Rho} {PL : List D → Mem → Prop} (h : t ρ M (fun ds M1 => ∃ d l, ds = [d] ∧ (d = .lst l ∨ d = .lsk l) ∧ PL (enumD l) M1) EX) : iEnumA t ρ M PL EX := h
theorem iZipD_r {t : AA} {ρ : Rho} {PL : List D → Mem → Prop} (h : t ρ M (fun ds M1 => ∃ x y l r, ds = [x, y] ∧ ((x = .tup l ∧ y = .tup r) ∨ (x = .lst l ∧ y = .lst r)) ∧ PL (zipD l r) M1) EX) : iZipD t ρ M PL EX := h
theorem en_fr {l : List D} {PL : List D → Prop} (h : PL l) : ∃ d l', [D.lst l] = [d] ∧ (d = .lst l' ∨ d = .lsk l') ∧ PL l' := ⟨_, l, rfl, Or.inl rfl, h⟩
theorem zi_tup {l r : List D} {PL : List D → List D → Prop} (h : PL l r) : ∃ x y l' r', [D.tup l, D.tup r] = [x, y] ∧ ((x = .tup l' ∧ y = .tup r') ∨ (x = .lst l' ∧ y = .lst r')) ∧ PL l' r' := ⟨_, _, l, r, rfl, Or.inl ⟨rfl, rfl⟩, h⟩
theorem zi_lst {l r : List D} {PL : List D → List D → Prop} (h : PL l r) : ∃ x y l' r', [D.lst l, D.lst r] = [x, y] ∧ ((x = .tup l' ∧ y = .tup r') ∨ (x = .lst l' ∧ y = .lst r')) ∧ PL l' r' := ⟨_, _, l, r, rfl, Or.inr ⟨rfl, rfl⟩, h⟩
theorem rg_r {j : Int} {PL : Int → Prop} (h1 : -(2 ^ 62) ≤ j) (h2 : j < 2 ^ 62) (h : PL j) : ∃ j' : Int, [D.int j] = [.int j'] ∧ -(2 ^ 62) ≤ j' ∧ j' < 2 ^ 62 ∧ PL j' := ⟨j, rfl, h1, h2, h⟩
theorem aYes_r {ρ : Rho} {PB : Bool → Mem → Prop} (h : PB true M) : aYes ρ M PB EX := h
theorem rFro_r {l : List D} (h : P (.lst l) M) : rFro l M P := h
theorem rMut_r {l : List D} (h : ∀ q, q ∉ dom M → P (.ref q) (M ++ [(q, .lst l)])) : rMut l M P := h
theorem aBreak_r {ρ : Rho} (h : k.bk ρ M) : aBreak ρ M k := h
theorem aCont_r {ρ : Rho} (h : k.ct ρ M) : aCont ρ M k := h
theorem NeA_r {x y : D} (h : EqA x y M (fun d M' => ∃ b, d = .bl b ∧ P (.bl (!b)) M')) : NeA x y M P := h
theorem NotInA_r {x y : D} (h : InA x y M (fun d M' => ∃ b, d = .bl b ∧ P (.bl (!b)) M')) : NotInA x y M P := h
theorem ite_r {b : Bool} {A B : Prop} (h1 : b = true → A) (h2 : b = false → B) : (b = true → A) ∧ (b = false → B) := ⟨h1, h2⟩
theorem ite_t {A B : Prop} (h1 : A) : (true = true → A) ∧ (true = false → B) := ⟨fun _ => h1, fun z => Bool.noConfusion z⟩
theorem ite_f {A B : Prop} (h1 : B) : (false = true → A) ∧ (false = false → B) := ⟨fun z => Bool.noConfusion z, fun _ => h1⟩
theorem len_r {ds : List D} {n : Nat} {A : Prop} (h1 : ds.length = n) (h : A) : ds.length = n ∧ A := ⟨h1, h⟩
end
section
variable {nx : Rho → Mem → Prop} {rt : AK} {bk ct : Rho → Mem → Prop} {ex : Exc → Rho → Mem → Prop} {ρ : Rho} {M : Mem} {d : D} {x : Exc}
theorem nx_mk (h : nx ρ M) : KE.nx ⟨nx, rt, bk, ct, ex⟩ ρ M := h
theorem rt_mk (h : rt d M) : KE.rt ⟨nx, rt, bk, ct, ex⟩ d M := h
theorem bk_mk (h : bk ρ M) : KE.bk ⟨nx, rt, bk, ct, ex⟩ ρ M := h
theorem ct_mk (h : ct ρ M) : KE.ct ⟨nx, rt, bk, ct, ex⟩ ρ M := h
theorem ex_mk (h : ex x ρ M) : KE.ex ⟨nx, rt, bk, ct, ex⟩ x ρ M := h
section
variable {P : AK} {EX : XKA} {p : Addr × MO}
theorem rk_0 (h : P d []) : (retK P EX).rt d [] := ⟨_, Less.refl, h⟩
theorem rk_1 (h : P d [p]) : (retK P EX).rt d [p] := ⟨_, Less.refl, h⟩
theorem rk_c {r : Mem} (h : P d [p]) : (retK P EX).rt d (p :: r) := ⟨_, (List.nil_sublist r).cons_cons p, h⟩
theorem rk_cc {q : Addr × MO} {r : Mem} (h : P d [p, q]) : (retK P EX).rt d (p :: q :: r) := ⟨_, ((List.nil_sublist r).cons_cons q).cons_cons p, h⟩
theorem rk_z {r : Mem} (h : P d []) : (retK P EX).rt d r := ⟨_, List.nil_sublist r, h⟩
theorem rk_n0 (h : P .non []) : (retK P EX).nx ρ [] := ⟨_, Less.refl, h⟩
theorem rk_n1 (h : P .non [p]) : (retK P EX).nx ρ [p] := ⟨_, Less.refl, h⟩
theorem rk_x0 (h : EX x []) : (retK P EX).ex x ρ [] := ⟨_, Less.refl, h⟩
theorem rk_x1 (h : EX x [p]) : (retK P EX).ex x ρ [p] := ⟨_, Less.refl, h⟩
end
theorem rk_r {P : AK} {EX : XKA} (h : ∃ M1, Less M1 M ∧ P d M1) : (retK P EX).rt d M := h
theorem rk_n {P : AK} {EX : XKA} (h : ∃ M1, Less M1 M ∧ P .non M1) : (retK P EX).nx ρ M := h
theorem rk_x {P : AK} {EX : XKA} (h : ∃ M1, Less M1 M ∧ EX x M1) : (retK P EX).ex x ρ M := h
theorem rfn_r {n : Nat} {A : Prop} (h : A) : n = n ∧ A := ⟨rfl, h⟩
theorem setL_r {a : Addr} {l l' : List D} {j : Int} {k : Nat} {d : D} {M M3 : Mem} {Q : Mem → Prop} (h2 : PutM M a (.lst l) (.lst l') M3) (h1 : ixN l.length j = some k) (h3 : l.set k d = l') (h : Q M3) :
    ∃ a' l' j' k' M3', D.ref a = .ref a' ∧ D.int j = .int j' ∧ ixN l'.length j' = some k' ∧ PutM M a' (.lst l') (.lst (l'.set k' d)) M3' ∧ Q M3' := by
  subst h3
  exact ⟨a, l, j, k, M3, rfl, rfl, h1, h2, h⟩
end
end Ab
set_option maxRecDepth 100000
set_option maxHeartbeats 2000000
/-! Ab12: comprehensions of two clauses. -/
namespace Ab
open PySem L2 PyProof.Rows
theorem StepX.step {H H1 H2 : Hp} {M M1 M2 : Mem} {F : List Addr} (a : StepX F H M H1 M1) (b : Step H1 M1 H2 M2) : StepX F H M H2 M2 :=
  ⟨fun c o hc h => b.keep c o (fun z => (a.new c z).elim hc fun y => by rw [h] at y; cases y) (a.keep c o hc h), fun c hc => by
    rcases b.new c hc with z | z
    · exact a.new c z
    · by_cases hm : c ∈ um F M
      · exact Or.inl hm
      · right
        cases q : H c with
        | none => rfl
        | some o => rw [a.keep c o hm q] at z; cases z⟩
theorem StepX.frz {H H1 : Hp} {M M1 : Mem} {F : List Addr} {D0 : Addr} {o : HO} (a : StepX (D0 :: F) H M H1 M1) : StepX (D0 :: F) H M (upd H1 D0 o) M1 :=
  ⟨fun c u hc h => by
    rw [upd_ne (fun z => hc (by rw [z]; exact List.mem_append_right _ List.mem_cons_self))]
    exact a.keep c u hc h, a.new⟩
section
variable {X : Cx}
/-- the turns of the second clause: acc0 is made so far -/
def LcI (vs : List Nat) (g : AG) (tt : AT) (te : AE) (xs : List D) (ρ : Rho) (acc0 : List D) (M : Mem) (P : List D → Mem → Prop) : Prop := ∃ J : Nat → List D → Mem → Prop, J 0 acc0 M ∧
  (∀ i d acc M', xs[i]? = some d → J i acc M' → g d (wipeA ρ vs) M' (fun ρ2 M2 => tt ρ2 M2 (fun b M3 => (b = true → te ρ2 M3 (fun y M4 => acc.length < 100000 ∧ J (i + 1) (acc ++ [y]) M4) noX) ∧ (b = false → J (i + 1) acc M3)) noX)) ∧
  ∀ acc M', J xs.length acc M' → P acc M'
def LcA2 (vs vs1 : List Nat) (g : AG) (tt : AT) (ai1 : AI) (g1 : AG) (tt1 : AT) (te : AE) (xs : List D) (ρ : Rho) (M : Mem) (P : List D → Mem → Prop) : Prop := ∃ J : Nat → List D → Mem → Prop, J 0 [] M ∧
  (∀ i d acc M', xs[i]? = some d → J i acc M' → g d (wipeA ρ vs) M' (fun ρ2 M2 => tt ρ2 M2 (fun b M3 => (b = true → ai1 ρ2 M3 (fun ys M4 => LcI vs1 g1 tt1 te ys ρ2 acc M4 (J (i + 1))) noX) ∧ (b = false → J (i + 1) acc M3)) noX)) ∧
  ∀ acc M', J xs.length acc M' → P acc M'
def aLc2L (vs vs1 : List Nat) (ai : AI) (g : AG) (tt : AT) (ai1 : AI) (g1 : AG) (tt1 : AT) (te : AE) (R : List D → Mem → AK → Prop) : AE := fun ρ M P EX => ai ρ M (fun xs M1 => LcA2 vs vs1 g tt ai1 g1 tt1 te xs ρ M1 (fun acc M2 => R acc M2 P)) EX
theorem lc2_ok {elt tg iter tg1 iter1 : Expr} {ifs ifs1 : List Expr} {scope : Scope} {vs vs1 ws ws1 : List Nat} {ai ai1 : AI} {g g1 : AG} {tt tt1 : AT} {te : AE} (b : Bool) {F : List Addr} {ρ : Rho} {M : Mem} {P : AK} {EX : XKA} {W : WX} {σ : L2.St} {H : Hp} {Q : VK}
    (hi : DenI X tg iter ai) (hg : Blk X scope fun X' => DenG X' tg ws g) (hw : ∀ i ∈ ws, i ∈ vs) (ht : Blk X scope fun X' => DenTs X' ifs tt) (hi1 : Blk X scope fun X' => DenI X' tg1 iter1 ai1) (hg1 : Blk X scope fun X' => DenG X' tg1 ws1 g1) (hw1 : ∀ i ∈ ws1, i ∈ vs1) (ht1 : Blk X scope fun X' => DenTs X' ifs1 tt1)
    (he : Blk X scope fun X' => DenE X' elt te) (S : Sta X H F M σ ρ) (tk : Takes X W)
    (h : aLc2L vs vs1 ai g tt ai1 g1 tt1 te (if b = true then rMut else rFro) ρ M P EX) (hP : ∀ v d M' H', Step H M H' M' → MSt X.K H' F M' → DV X.K H' (um F M') v d → P d M' → Q v H') (hX : LX X H F M EX (fun cls d H' => W cls d σ H')) :
    tLc2 (IW X tg iter) (fun v σ H Q => ∀ (s : Shared) (H' : Hp) (C : Addr) (cl : List (Str × Addr)) (fp : List Addr), GT (X.blk s H' scope (compEnvC scope cl C X.env) fp) tg v σ H Q)
      (fun σ H Q => ∀ (s : Shared) (H' : Hp) (C : Addr) (cl : List (Str × Addr)) (fp : List Addr) (pins : List (Addr × Obj)) (t : Shared), Inv (X.blk s H' scope (compEnvC scope cl C X.env) fp) pins σ H t →
        wpAny (model X.prog X.w) X.A (forIn ifs true fun c r => if r = true then do let ok ← isTrue c (compEnvC scope cl C X.env) (eval c (compEnvC scope cl C X.env)); pure (ForInStep.yield ok) else pure (ForInStep.yield r)) (TP (X.blk s H' scope (compEnvC scope cl C X.env) fp) pins σ Q) (fun _ _ => False) t)
      (fun σ H R => ∀ (s : Shared) (H' : Hp) (C : Addr) (cl : List (Str × Addr)) (fp : List Addr), IW (X.blk s H' scope (compEnvC scope cl C X.env) fp) tg1 iter1 σ H R)
      (fun v σ H Q => ∀ (s : Shared) (H' : Hp) (C : Addr) (cl : List (Str × Addr)) (fp : List Addr), GT (X.blk s H' scope (compEnvC scope cl C X.env) fp) tg1 v σ H Q)
      (fun σ H Q => ∀ (s : Shared) (H' : Hp) (C : Addr) (cl : List (Str × Addr)) (fp : List Addr) (pins : List (Addr × Obj)) (t : Shared), Inv (X.blk s H' scope (compEnvC scope cl C X.env) fp) pins σ H t →
        wpAny (model X.prog X.w) X.A (forIn ifs1 true fun c r => if r = true then do let ok ← isTrue c (compEnvC scope cl C X.env) (eval c (compEnvC scope cl C X.env)); pure (ForInStep.yield ok) else pure (ForInStep.yield r)) (TP (X.blk s H' scope (compEnvC scope cl C X.env) fp) pins σ Q) (fun _ _ => False) t)
      (fun σ H Q => ∀ (s : Shared) (H' : Hp) (C : Addr) (cl : List (Str × Addr)) (fp : List Addr), EW (X.blk s H' scope (compEnvC scope cl C X.env) fp) elt σ H Q) vs vs1 σ H Q := by
  refine hi.run F ρ M _ EX W σ H _ S tk h (fun J xs M1 H1 s1 m1 io hL => ?_) hX
  intro D0 hD
  obtain ⟨Jv, h0, hstep, hd⟩ := hL
  have nD := m1.notin hD
  have st0 : Step H1 M1 (upd H1 D0 (.lst [])) M1 := step_new hD
  have mD : MSt X.K (upd H1 D0 (.lst [])) (D0 :: F) M1 := by
    have m := mst_new (o := .lst []) m1 hD
    exact ⟨m.nd, fun q hq => by
      obtain ⟨u, e⟩ := (m1.ok q hq).there
      have z := (m1.ok q hq)
      have key : ∀ {o : MO}, MoOk X.K H1 (um F M1) q.1 o → MoOk X.K (upd H1 D0 (.lst [])) (um (D0 :: F) M1) q.1 o := fun {o} z => by
        have f2 : FrGo H1 F (D0 :: F) := fun b hb => (List.mem_cons.mp hb).elim (fun y => Or.inr (by rw [y]; exact hD)) Or.inl
        have ne : upd H1 D0 (.lst []) q.1 = H1 q.1 := upd_ne (ne_of_none e hD)
        cases o with
        | lst ds => obtain ⟨a, b1, b2⟩ := z; exact ⟨a, ne.trans b1, b2.step2 st0 f2⟩
        | ins C fs => obtain ⟨a, b, b1, b2⟩ := z; exact ⟨a, b, ne.trans b1, b2.step2 st0 f2⟩
        | dK kvs => obtain ⟨a, b1, b2⟩ := z; exact ⟨a, ne.trans b1, b2.step2 st0 f2⟩
        | any o => exact ne.trans z
      exact key z, fun b hb => by
      rcases List.mem_cons.mp hb with y | y
      · rw [y]; exact ⟨fun z => nD (List.mem_append_left _ z), _, upd_same⟩
      · exact m.fr b y⟩
  have f2 : FrGo H1 F (D0 :: F) := fun b hb => (List.mem_cons.mp hb).elim (fun y => Or.inr (by rw [y]; exact hD)) Or.inl
  -- the invariant of the turns
  let Wv : Nat → Hp → Prop := fun i H' => ∃ acc as M', Step H1 M1 H' M' ∧ MSt X.K H' (D0 :: F) M' ∧ H' D0 = some (.lst as) ∧ DVs X.K H' (um (D0 :: F) M') as acc ∧ Jv i acc M'
  refine ⟨fun i m H' => m + i = xs.length ∧ Wv i H', ⟨xs.length, Nat.add_zero _, [], [], M1, st0, mD, upd_same, .nil, h0⟩, ?_⟩
  rintro i m H' ⟨hm, acc, as, M', s', m', hD', dvs, hj⟩
  obtain ⟨ho, hstop⟩ := io (D0 :: F) H' M' s'.toX f2 m'
  by_cases hi' : i = xs.length
  · subst hi'
    left
    refine ⟨hstop, ?_⟩
    have mF : MSt X.K H' F M' := m'.less fun b hb => List.mem_cons_of_mem _ hb
    have nD' : D0 ∉ dom M' := (m'.fr D0 List.mem_cons_self).1
    have nF : D0 ∉ F := fun z => nD (List.mem_append_right _ z)
    have hq := hd acc M' hj
    cases b with
    | false =>
      have hq' : P (.lst acc) M' := hq
      refine hP _ _ M' H' (s1.trans s') mF (.lst hD' (fun z => (List.mem_append.mp z).elim nD' nF) (dvs.anti fun a ha => (List.mem_append.mp ha).elim (fun z => List.mem_append_left _ z) fun z => List.mem_append_right _ (List.mem_cons_of_mem _ z))) hq'
    | true =>
      have hq' : ∀ q, q ∉ dom M' → P (.ref q) (M' ++ [(q, .lst acc)]) := hq
      have sp : Split (M' ++ [(D0, MO.lst acc)]) M' [(D0, MO.lst acc)] := List.Perm.refl _
      have sub : ∀ a ∈ um F (M' ++ [(D0, MO.lst acc)]), a ∈ um (D0 :: F) M' := fun a ha => by
        rw [um, dom_app] at ha
        simp only [List.mem_append, List.mem_singleton] at ha
        rcases ha with (z | z) | z
        · exact List.mem_append_left _ z
        · exact List.mem_append_right _ (by rw [z]; exact List.mem_cons_self)
        · exact List.mem_append_right _ (List.mem_cons_of_mem _ z)
      have mm : MSt X.K H' F (M' ++ [(D0, MO.lst acc)]) := by
        refine ⟨?_, fun q hq => ?_, fun b hb => ⟨?_, (mF.fr b hb).2⟩⟩
        · rw [dom_app]
          refine List.nodup_append.mpr ⟨mF.nd, by simp, fun a ha b hb => ?_⟩
          rw [List.mem_singleton.mp hb]
          rintro rfl
          exact nD' ha
        · rcases List.mem_append.mp hq with z | z
          · exact (m'.ok q z).anti sub
          · rw [List.mem_singleton.mp z]
            exact ⟨as, hD', dvs.anti sub⟩
        · rw [dom_app]
          intro z
          rcases List.mem_append.mp z with z | z
          · exact (mF.fr b hb).1 z
          · rw [List.mem_singleton.mp z] at hb; exact nF hb
      refine hP _ _ (M' ++ [(D0, MO.lst acc)]) H' ⟨(s1.trans s').keep, fun b hb => ?_⟩ mm (.ref D0) (hq' D0 nD')
      rw [dom_app] at hb
      rcases List.mem_append.mp hb with z | z
      · exact (s1.trans s').new b z
      · rw [List.mem_singleton.mp z]
        cases e : H D0 with
        | none => exact Or.inr rfl
        | some u =>
          by_cases hdm : D0 ∈ dom M
          · exact Or.inl hdm
          · have := s1.keep D0 u hdm e
            rw [hD] at this; cases this
  · right
    have hlt : i < xs.length := by omega
    obtain ⟨d, hd'⟩ : ∃ d, xs[i]? = some d := ⟨_, List.getElem?_eq_getElem hlt⟩
    obtain ⟨hgo, hy⟩ := ho i d hd'
    refine ⟨hgo, Wv (i + 1), fun H2 q => ⟨m - 1, by omega, by omega, q⟩, fun x H2 hyl => ?_⟩
    obtain ⟨s2, m2, dx⟩ := hy x H2 hyl
    have keepD : ∀ {Ha Hb : Hp} {Ma Mb : Mem} {as : List V}, Step Ha Ma Hb Mb → MSt X.K Ha (D0 :: F) Ma → Ha D0 = some (.lst as) → Hb D0 = some (.lst as) := fun st mm e => st.keep D0 _ (mm.fr D0 List.mem_cons_self).1 e
    have sl2 : SlOk X.K H2 (um (D0 :: F) M') (L2.wipe σ vs) (wipeA ρ vs) := by
      have z : SlOk X.K H1 (um F M1) σ ρ := (S.step s1 m1).sl
      have z2 : SlOk X.K H2 (um (D0 :: F) M') σ ρ := ⟨z.len, fun i d e => let ⟨v, e1, e2⟩ := z.at_ i d e; ⟨v, e1, e2.step2 (s'.trans s2) f2⟩⟩
      exact z2.wipe vs
    intro s_ H_ C_ cl_ fp_
    refine (hg s_ H_ C_ cl_ fp_).run (D0 :: F) x d _ M' _ (fun _ _ _ _ => False) _ H2 _ ⟨sl2, m2⟩ dx takes_no (hstep i d acc M' hd' hj) fun ρ3 M3 σ3 H3 s3 S3 oe q3 => ?_
    refine ⟨wipe_eq oe hw, fun s_ H_ C_ cl_ fp_ pins t J' => ?_⟩
    refine (ht s_ H_ C_ cl_ fp_).run (D0 :: F) ρ3 M3 _ noX (fun _ _ _ _ => False) σ3 H3 _ ⟨S3.sl, S3.ms⟩ takes_no q3 (fun bb M4 H4 s4 m4 q4 => ?_) lx_no pins t J'
    have dv4 := (((dvs.step s2).step s3).step s4)
    have hD4 := keepD s4 S3.ms (keepD s3 m2 (keepD s2 m' hD'))
    cases bb with
    | false =>
      show Wv (i + 1) H4
      exact ⟨acc, as, M4, ((s'.trans s2).trans s3).trans s4, m4, hD4, dv4, q4.2 rfl⟩
    | true =>
      rw [if_pos rfl]
      intro s_ H_ C_ cl_ fp_
      refine (hi1 s_ H_ C_ cl_ fp_).run (D0 :: F) ρ3 M4 _ noX (fun _ _ _ _ => False) σ3 H4 _ ⟨S3.sl.step s4, m4⟩ takes_no (q4.1 rfl) (fun J1 ys M5 H5 s5 m5 io1 q5 => ?_) lx_no
      obtain ⟨J1v, h10, h1step, h1d⟩ := q5
      let W1 : Nat → Hp → Prop := fun j H' => ∃ acc as M', Step H1 M1 H' M' ∧ StepX (D0 :: F) H5 M5 H' M' ∧ MSt X.K H' (D0 :: F) M' ∧ H' D0 = some (.lst as) ∧ DVs X.K H' (um (D0 :: F) M') as acc ∧ J1v j acc M'
      refine ⟨fun j k H' => k + j = ys.length ∧ W1 j H', ⟨ys.length, Nat.add_zero _, acc, as, M5, (((s'.trans s2).trans s3).trans s4).trans s5, (Step.refl _ _).toX, m5, keepD s5 m4 hD4, dv4.step s5, h10⟩, ?_⟩
      rintro j k H6 ⟨hk, acc6, as6, M6, s6, x6, m6, hD6, dv6, hj6⟩
      obtain ⟨ho1, hstop1⟩ := io1 (D0 :: F) H6 M6 x6 FrGo.refl m6
      by_cases hj' : j = ys.length
      · subst hj'
        exact Or.inl ⟨hstop1, acc6, as6, M6, s6, m6, hD6, dv6, h1d acc6 M6 hj6⟩
      · have hlt1 : j < ys.length := by omega
        obtain ⟨d1, hd1⟩ : ∃ d, ys[j]? = some d := ⟨_, List.getElem?_eq_getElem hlt1⟩
        obtain ⟨hgo1, hy1⟩ := ho1 j d1 hd1
        refine Or.inr ⟨hgo1, W1 (j + 1), fun H2 q => ⟨k - 1, by omega, by omega, q⟩, fun x H7 hyl => ?_⟩
        obtain ⟨s7, m7, dx1⟩ := hy1 x H7 hyl
        have x7 : StepX (D0 :: F) H5 M5 H7 M6 := x6.step s7
        have sl7 : SlOk X.K H7 (um (D0 :: F) M6) (L2.wipe σ3 vs1) (wipeA ρ3 vs1) := by
          have z : SlOk X.K H5 (um (D0 :: F) M5) σ3 ρ3 := (S3.sl.step s4).step s5
          have z2 : SlOk X.K H7 (um (D0 :: F) M6) σ3 ρ3 := ⟨z.len, fun i d e => let ⟨v, e1, e2⟩ := z.at_ i d e; ⟨v, e1, e2.step2X x7 FrGo.refl⟩⟩
          exact z2.wipe vs1
        intro s_ H_ C_ cl_ fp_
        refine (hg1 s_ H_ C_ cl_ fp_).run (D0 :: F) x d1 _ M6 _ (fun _ _ _ _ => False) _ H7 _ ⟨sl7, m7⟩ dx1 takes_no (h1step j d1 acc6 M6 hd1 hj6) fun ρ8 M8 σ8 H8 s8 S8 oe1 q8 => ?_
        refine ⟨wipe_eq oe1 hw1, fun s_ H_ C_ cl_ fp_ pins t J' => ?_⟩
        refine (ht1 s_ H_ C_ cl_ fp_).run (D0 :: F) ρ8 M8 _ noX (fun _ _ _ _ => False) σ8 H8 _ ⟨S8.sl, S8.ms⟩ takes_no q8 (fun bb M9 H9 s9 m9 q9 => ?_) lx_no pins t J'
        have dv9 := (((dv6.step s7).step s8).step s9)
        have hD9 := keepD s9 S8.ms (keepD s8 m7 (keepD s7 m6 hD6))
        cases bb with
        | false =>
          show W1 (j + 1) H9
          exact ⟨acc6, as6, M9, ((s6.trans s7).trans s8).trans s9, (x7.step s8).step s9, m9, hD9, dv9, q9.2 rfl⟩
        | true =>
          rw [if_pos rfl]
          intro s_ H_ C_ cl_ fp_
          refine (he s_ H_ C_ cl_ fp_).run (D0 :: F) ρ8 M9 _ noX (fun _ _ _ _ => False) σ8 H9 _ ⟨S8.sl.step s9, m9⟩ takes_no (q9.1 rfl) (fun y yd MA HA sA mA dy qA => ?_) lx_no
          have hDA := keepD sA m9 hD9
          refine ⟨as6, hDA, by rw [dv6.length]; exact Nat.lt_of_lt_of_le qA.1 (by decide), acc6 ++ [yd], as6 ++ [y], MA, ?_, (((x7.step s8).step s9).step sA).frz, ?_, upd_same, ?_, qA.2⟩
          · refine ⟨fun b u hb e => ?_, fun b hb => ((((s6.trans s7).trans s8).trans s9).trans sA).new b hb⟩
            rw [upd_ne (ne_of_none e hD)]
            exact ((((s6.trans s7).trans s8).trans s9).trans sA).keep b u hb e
          · refine ⟨mA.nd, fun q hq => ?_, fun b hb => ⟨(mA.fr b hb).1, ?_⟩⟩
            · have nq : q.1 ≠ D0 := fun z => (mA.fr D0 List.mem_cons_self).1 (by rw [← z]; exact List.mem_map_of_mem (f := (·.1)) hq)
              exact MoOk.frz (List.mem_append_right _ List.mem_cons_self) nq (mA.ok q hq)
            · by_cases e : b = D0
              · rw [e]; exact ⟨_, upd_same⟩
              · rw [upd_ne e]; exact (mA.fr b hb).2
          · exact DVs.frz (List.mem_append_right _ List.mem_cons_self) ((dv9.step sA).append (DVs.one dy))
/-- [elt for tg in iter if .. for tg1 in iter1 if ..] -/
theorem de_lc2 {elt tg iter tg1 iter1 : Expr} {ifs ifs1 : List Expr} {scope : Scope} {own : List (Str × Nat)} {vs1 ws ws1 : List Nat} {pos : Pos} {ai ai1 : AI} {g g1 : AG} {tt tt1 : AT} {te : AE} (b : Bool) (own_ : own = own) (hc : X.calm = true) (hN : X.N.Nodup) (ok : BlkOk X.N X.env.scope scope own)
    (hi : DenI X tg iter ai) (hg : Blk X scope fun X' => DenG X' tg ws g) (ht : Blk X scope fun X' => DenTs X' ifs tt) (hi1 : Blk X scope fun X' => DenI X' tg1 iter1 ai1) (hg1 : Blk X scope fun X' => DenG X' tg1 ws1 g1) (ht1 : Blk X scope fun X' => DenTs X' ifs1 tt1) (he : Blk X scope fun X' => DenE X' elt te) (hw : ∀ i ∈ ws, i ∈ own.map (·.2) := by decide) (hw1 : ∀ i ∈ ws1, i ∈ vs1 := by decide) (hv : ∀ i ∈ vs1, i ∈ own.map (·.2) := by decide) (hs : ∀ x, foldedSetIterable iter X.env x = pure x := by intro _; rfl) (hs1 : ∀ env x, foldedSetIterable iter1 env x = pure x := by intro _ _; rfl) :
    DenE X (.ListComp elt [⟨tg, iter, ifs, 0⟩, ⟨tg1, iter1, ifs1, 0⟩] scope pos) (aLc2L (own.map (·.2)) vs1 ai g tt ai1 g1 tt1 te (if b = true then rMut else rFro)) :=
  ⟨fun F ρ M P EX W σ H Q S tk h hP hX => PE.ew (pe_lc2 (own := own) hc hN (pi_iw (X := X)) ok hv (fun s H C cl fp => ⟨fun pins s σ H v u Q I r h => h _ _ _ _ _ pins s u I r⟩) (fun s H C cl fp => ⟨fun pins s σ H Q I h => h _ _ _ _ _ pins s I⟩) (fun s H C cl fp => ⟨fun pins s σ H R I h => h _ _ _ _ _ pins s I⟩) (fun s H C cl fp => ⟨fun pins s σ H v u Q I r h => h _ _ _ _ _ pins s u I r⟩) (fun s H C cl fp => ⟨fun pins s σ H Q I h => h _ _ _ _ _ pins s I⟩) (fun s H C cl fp => ⟨fun pins s σ H Q I h => h _ _ _ _ _ pins s I⟩) hs hs1)
    (lc2_ok b hi hg hw ht hi1 hg1 hw1 ht1 he S tk h hP hX)⟩
/-- y = .. -/
theorem ds_setLc2 {elt tg iter tg1 iter1 : Expr} {ifs ifs1 : List Expr} {scope : Scope} {own : List (Str × Nat)} {vs1 ws ws1 : List Nat} {pos spos py : Pos} {ai ai1 : AI} {g g1 : AG} {tt tt1 : AT} {te : AE} (b : Bool) (i : Nat) {y : Str} (own_ : own = own) (hc : X.calm = true) (hN : X.N.Nodup) (ok : BlkOk X.N X.env.scope scope own)
    (hi : DenI X tg iter ai) (hg : Blk X scope fun X' => DenG X' tg ws g) (ht : Blk X scope fun X' => DenTs X' ifs tt) (hi1 : Blk X scope fun X' => DenI X' tg1 iter1 ai1) (hg1 : Blk X scope fun X' => DenG X' tg1 ws1 g1) (ht1 : Blk X scope fun X' => DenTs X' ifs1 tt1) (he : Blk X scope fun X' => DenE X' elt te)
    (hsw : swapsWith (.ListComp elt [⟨tg, iter, ifs, 0⟩, ⟨tg1, iter1, ifs1, 0⟩] scope pos) (some (.Name y py)) spos.line X.env = pure true) (hy : X.N[i]? = some y := by rfl) (hyl : X.env.scope.names.lookup y = some .local := by rfl) (hw : ∀ i ∈ ws, i ∈ own.map (·.2) := by decide) (hw1 : ∀ i ∈ ws1, i ∈ vs1 := by decide) (hv : ∀ i ∈ vs1, i ∈ own.map (·.2) := by decide) (hs : ∀ x, foldedSetIterable iter X.env x = pure x := by intro _; rfl) (hs1 : ∀ env x, foldedSetIterable iter1 env x = pure x := by intro _ _; rfl) :
    DenS X (.Assign [.Name y py] (.ListComp elt [⟨tg, iter, ifs, 0⟩, ⟨tg1, iter1, ifs1, 0⟩] scope pos) spos) (aAsg (aLc2L (own.map (·.2)) vs1 ai g tt ai1 g1 tt1 te (if b = true then rMut else rFro)) (gNameA i)) :=
  ⟨fun F ρ M k W σ H D S tk h L => fun pins s I => (ps_setLc2 (own := own) hc hN hy hyl hsw (pi_iw (X := X)) ok hv (fun s H C cl fp => ⟨fun pins s σ H v u Q I r h => h _ _ _ _ _ pins s u I r⟩) (fun s H C cl fp => ⟨fun pins s σ H Q I h => h _ _ _ _ _ pins s I⟩) (fun s H C cl fp => ⟨fun pins s σ H R I h => h _ _ _ _ _ pins s I⟩) (fun s H C cl fp => ⟨fun pins s σ H v u Q I r h => h _ _ _ _ _ pins s u I r⟩) (fun s H C cl fp => ⟨fun pins s σ H Q I h => h _ _ _ _ _ pins s I⟩) (fun s H C cl fp => ⟨fun pins s σ H Q I h => h _ _ _ _ _ pins s I⟩) hs hs1).run pins s σ H D I
    (lc2_ok b hi hg hw ht hi1 hg1 hw1 ht1 he S tk h (fun v d M' H' s m dv q => L.nx _ M' _ H' s ⟨by rw [sS_set]; exact (S.sl.step s).set dv i, m⟩ q) (L.lx S))⟩
end
end Ab
set_option maxRecDepth 100000
set_option maxHeartbeats 2000000
/-! Ab13: texts backwards and many times, a tuple's index, enumerate over a tuple. -/
namespace Ab
open PySem L2 PyProof.Rows
section
variable {X : Cx}
/-! ### text * n -/
theorem op_mulS : OpR X (binaryOp .Mult) (fun x y H Q => ∃ (z : Str) (k : Int), x = .str z ∧ y = .int k ∧ 1 ≤ k ∧ k ≤ 100 ∧ z.length ≤ 100000 ∧ ∀ z' : Str, z'.length ≤ z.length * k.toNat → (∀ c ∈ z'.cps.toList, c ∈ z.cps.toList) → Q (.str z') H) := by
  intro pins s σ H x y v u Q I rx ry h
  obtain ⟨z, k, rfl, rfl, h1, h2, hz, q⟩ := h
  obtain ⟨t, rfl⟩ := rx
  obtain ⟨t', rfl⟩ := ry
  have hk : k.toNat ≤ 100 := by omega
  have hm : z.length * k.toNat ≤ 100000 * 100 := Nat.mul_le_mul hz hk
  have len : ∀ (n : Nat) (acc : Array Nat), ((List.replicate n z.cps).foldl (· ++ ·) acc).size = acc.size + z.length * n := by
    intro n
    induction n with
    | zero => intro acc; rfl
    | succ n ih =>
      intro acc
      rw [List.replicate_succ, List.foldl_cons, ih, Array.size_append, Nat.mul_succ]
      show acc.size + z.length + z.length * n = _
      omega
  have mem : ∀ (n : Nat) (acc : Array Nat), (∀ c ∈ acc.toList, c ∈ z.cps.toList) → ∀ c ∈ ((List.replicate n z.cps).foldl (· ++ ·) acc).toList, c ∈ z.cps.toList := by
    intro n
    induction n with
    | zero => intro acc h; exact h
    | succ n ih =>
      intro acc h
      rw [List.replicate_succ, List.foldl_cons]
      refine ih _ fun c hc => ?_
      rw [Array.toList_append] at hc
      rcases List.mem_append.mp hc with y | y
      · exact h c y
      · exact y
  refine PySem.P.mul_str ?_ (fun _ _ => ?_) (fun _ _ => ?_) ?_
  · have a : ¬ k < -(2 ^ 63) := by omega
    have b : ¬ k ≥ 2 ^ 63 := by omega
    rw [decide_eq_false a, decide_eq_false b]; rfl
  · intro y
    have y2 := (Int.ediv_lt_iff_lt_mul (by omega)).mp y
    have y3 : (z.length : Int) * k ≤ z.length * 100 := Int.mul_le_mul_of_nonneg_left h2 (by omega)
    omega
  · unfold Builtin.Str.tooLong
    have : ¬ z.length * k.toNat > sizeLine := fun y => by
      have s : (100000 * 100 : Nat) ≤ sizeLine := by decide
      omega
    exact decide_eq_false this
  · rw [if_neg (by omega)]
    split
    · rename_i c
      refine ⟨.str z, H, I, ⟨_, rfl⟩, q z ?_ fun _ h => h⟩
      exact Nat.le_mul_of_pos_right _ (by omega)
    · have l := len k.toNat #[]
      refine ⟨?_, .str _, H, I.tok _, ⟨_, rfl⟩, q _ ?_ (mem _ _ fun c hc => nomatch hc)⟩
      · show Array.size _ ≤ _
        rw [l]
        have s : (100000 * 100 : Nat) ≤ sizeLine := by decide
        have e : (#[] : Array Nat).size = 0 := rfl
        omega
      · show Array.size _ ≤ _
        rw [l]
        have e : (#[] : Array Nat).size = 0 := rfl
        omega
inductive MulSA : A2
  | str {z : Str} {k : Int} {M : Mem} {P : AK} : 1 ≤ k ∧ k ≤ 100 → z.length ≤ 100000 → (∀ z' : Str, z'.length ≤ z.length * k.toNat → (∀ c ∈ z'.cps.toList, c ∈ z.cps.toList) → P (.str z') M) → MulSA (.str z) (.int k) M P
theorem ok_mulS : OkA2 X (binaryOp .Mult) MulSA := fun F x y v w M P H Q m dv dw h hP => by
  cases h with
  | str hk hz q =>
    cases dv; cases dw
    exact ⟨_, op_mulS, _, _, rfl, rfl, hk.1, hk.2, hz, fun z' hl hc => hP _ _ M H (Step.refl H M) m (.str _) (q z' hl hc)⟩
/-! ### text[::-1] -/
/-- the text's signs, picked by the step -/
def stepS (z : Str) (k : Int) : Str := ⟨((Builtin.Str.strSliceIndices none none k z.length).filterMap (z.cps[·]?)).toArray⟩
inductive RevA : D → Int → Mem → AK → Prop
  | str {z : Str} {M : Mem} {P : AK} : z.length ≤ 100000 → P (.str (stepS z (-1))) M → RevA (.str z) (-1) M P
def aStep (te tk : AE) : AE := fun ρ M P EX => te ρ M (fun d M1 => tk ρ M1 (fun e M2 => ∃ k, e = .int k ∧ RevA d k M2 P) EX) EX
theorem stepS_length (z : Str) : (stepS z (-1)).length = z.length := by
  show (List.toArray _).size = _
  have e : Builtin.Str.strSliceIndices none none (-1) z.length = (List.range z.length).map fun k => z.length - 1 - k := by
    have := PySem.W.krv_sliceRange z.length
    rw [← this]
    rfl
  rw [e, PySem.W.krv_range, List.filterMap_reverse, List.size_toArray, List.length_reverse]
  have h2 := PySem.W.krv_all z.cps
  rw [show z.length = z.cps.size from rfl, h2, Array.length_toList]
theorem stepS_mem (z : Str) : ∀ c ∈ (stepS z (-1)).cps.toList, c ∈ z.cps.toList := by
  intro c hc
  have hc' : c ∈ (Builtin.Str.strSliceIndices none none (-1) z.length).filterMap (z.cps[·]?) := by
    have e : (stepS z (-1)).cps.toList = (Builtin.Str.strSliceIndices none none (-1) z.length).filterMap (z.cps[·]?) := rfl
    rw [← e]; exact hc
  obtain ⟨i, _, h⟩ := List.mem_filterMap.mp hc'
  rw [← Array.getElem?_toList] at h
  exact List.mem_of_getElem? h
theorem pe_stepS {e k : Expr} {te tk : TE} {p2 pos : Pos} (he : PE X e te) (hk : PE X k tk) : PE X (.Subscript e (.Slice none none (some k) p2) pos) (fun σ H Q => te σ H fun x H1 => tk σ H1 fun y H2 => ∃ z, x = .str z ∧ y = .int (-1) ∧ z.length ≤ sizeLine ∧ Q (.str (stepS z (-1))) H2) := by
  refine ⟨fun pins s σ H Q I h => ?_⟩
  refine Subscript_ (thn (he.run pins s σ H _ I h) fun v s1 ⟨x, H1, I1, r1, q1⟩ => ?_)
  refine wpAny_Slice ?_
  rw [evalPart_none]
  refine wpAny_pure ?_
  refine wpAny_pure ?_
  rw [evalPart_some]
  refine thn (hk.run pins s1 σ H1 _ I1 q1) fun vk s3 ⟨y, H3, I3, rk, z, ex, ey, hz, q3⟩ => ?_
  subst ex; subst ey
  obtain ⟨t, rfl⟩ := r1
  obtain ⟨tk', rfl⟩ := rk
  have I4 : Inv X pins σ H3 { s3 with heap := s3.heap.push { cls := .type "slice", data := .fields #[.none, .none, .int (-1) tk'] } } := I3.kept (t' := s3.toks) fun b ob q => Heap.get?_push_of_some _ q
  show wpAny (model X.prog X.w) X.A (subscriptTail e (.Slice none none (some k) p2) (.str z t) (.ref s3.heap.objs.size)) (EP X pins σ Q) X.xe { s3 with heap := s3.heap.push { cls := .type "slice", data := .fields #[.none, .none, .int (-1) tk'] } }
  refine tail_any (ops := [.ref s3.heap.objs.size, .str z t]) (typeIs_str _ _ _) PySem.F.slot_str_getitem.lookup ?_ (by with_unfolding_all rfl)
  obtain ⟨os, hos, hcs, hds⟩ := Heap.IsSliceOf.new s3.heap .none .none (.int (-1) tk')
  refine wpAny_getItem_str_slice (l := none) (u := none) (st := some (-1, tk')) ⟨os, hos, hcs, hds⟩ rfl ?_
  show Made.post (if ((-1 : Int) == 1 && _) = true then _ else Made.str (stepS z (-1))) _ _
  rw [if_neg (by simp)]
  exact ⟨by rw [stepS_length]; exact hz, .str _, H3, I4.tok _, ⟨_, rfl⟩, q3⟩
theorem de_step {e k : Expr} {te tk : AE} {p2 pos : Pos} (he : DenE X e te) (hk : DenE X k tk) : DenE X (.Subscript e (.Slice none none (some k) p2) pos) (aStep te tk) :=
  ⟨fun F ρ M P EX W σ H Q S tk' h hP hX => (pe_stepS (pe_ew (X := X)) (pe_ew (X := X))).ew (he.run F ρ M _ EX W σ H _ S tk' h (fun v d M1 H1 s1 m1 dv q => hk.run F ρ M1 _ EX W σ H1 _ (S.step s1 m1) tk' q (fun v2 d2 M2 H2 s2 m2 dv2 q2 => by
      obtain ⟨k, rfl, q2⟩ := q2
      cases q2 with
      | str hz q2 =>
        cases dv; cases dv2
        exact ⟨_, rfl, rfl, Nat.le_trans hz (by decide), hP _ _ M2 H2 (s1.trans s2) m2 (.str _) q2⟩) (hX.step s1)) hX)⟩

/-! ### t.index(x) -/
inductive TIndexA : AM
  | mk {ys : List Str} {z : Str} {j : Nat} {M : Mem} {P : AK} : ys[j]? = some z → (∀ m, m < j → ys[m]? ≠ some z) → P (.int (j : Int)) M → TIndexA (.tpn (ys.map D.str)) [.str z] M P
theorem tpn_at {pins : List (Addr × Obj)} {σ : L2.St} {H : Hp} {s : Shared} {F : List Addr} {M : Mem} {v : V} {u : Value} {ds : List D} (I : Inv X pins σ H s) (r : RelV v u) (h : DV X.K H (um F M) v (.tpn ds)) :
    s.TypeIs u "tuple" ∧ ∀ a, u = .ref a → ∃ ob, s.heap.get? a = some ob ∧ ob.dict = none := by
  cases h with
  | tpn h hd hn t =>
    cases r
    obtain ⟨e, _, _, _, o, e2, c, _⟩ := I.hok _ _ h
    rw [e] at e2; cases e2
    exact ⟨⟨_, e, c⟩, fun a q => by cases q; exact ⟨_, e, hd⟩⟩
  | tpnK h1 h2 h3 h t =>
    cases r
    exact ⟨⟨_, I.kIn _ _ h1, h2⟩, fun a q => by cases q; exact ⟨_, I.kIn _ _ h1, h3⟩⟩
theorem mt_tindex {pins : List (Addr × Obj)} {σ : L2.St} {H : Hp} {s : Shared} {Q : VK} {F : List Addr} {M : Mem} {x : V} {xs : List V} {v : Value} {us : List Value} {d : D} {ds : List D} {P : AK} (I : Inv X pins σ H s) (r1 : RelV x v) (r2 : Vals xs us) (m : MSt X.K H F M) (dv : DV X.K H (um F M) x d) (dvs : DVs X.K H (um F M) xs ds) (h : TIndexA d ds M P)
    (hP : ∀ z d M' H', Step H M H' M' → MSt X.K H' F M' → DV X.K H' (um F M') z d → P d M' → Q z H') : wpAny (model X.prog X.w) X.A (call (.builtin "tuple.index") (v :: us)) (EP X pins σ Q) X.xe s := by
  cases h with
  | @mk ys z j _ _ h1 h2 q =>
    obtain ⟨p, xs, rfl, e, t, _⟩ := dv.tpn_inv
    cases dvs with
    | cons d1 d2 =>
      cases d1; cases d2
      have := DVs.strs t rfl
      subst this
      exact mt_tup_index pins s σ H _ _ v us Q I r1 r2 ⟨p, ys, z, j, rfl, rfl, e, h1, h2, hP _ _ M H (Step.refl H M) m (.int _) q⟩
def aTIx (to : AE) (t : AA) : AE := fun ρ M P EX => to ρ M (fun x M1 => (∃ l, x = .tpn l) ∧ t ρ M1 (fun ds M2 => TIndexA x ds M2 P) EX) EX
theorem de_tix {o e : Expr} {es : List Expr} {to : AE} {t : AA} {name : Str} {apos cpos : Pos} (pa : PlainAttrs "tuple") (slot : Slot "tuple" name "tuple.index") (hty : typeOf (.builtin "tuple.index") = pure (.type "method_descriptor")) (ho : DenE X o to) (ha : DenA X (e :: es) t)
    (hbase : attributeBase o name X.env (eval o X.env) = eval o X.env := by rfl)
    (hfew : ((backTo cpos (starEach (e :: es) X.env)).all (fun x => !x.1) && (backToKw cpos (keywordEach [] X.env)).all (fun x => x.1.isSome) && decide ((e :: es).length + ([] : List Keyword).length + (if ([] : List Keyword).isEmpty then 0 else 1) < 30)) = true := by rfl)
    (hline : (apos.endLine == cpos.line) = true := by rfl) (hs : starEach (e :: es) X.env = (false, eval e X.env) :: starEach es X.env := by rfl) (hplain : (backTo cpos (starEach es X.env)).any (·.1) = false := by rfl) :
    DenE X (.Call (.Attribute o name apos) (e :: es) [] cpos) (aTIx to t) :=
  ⟨fun F ρ M P EX W σ H Q S tk h hP hX => fun pins s I => by
    refine wpAny_Call_method_late hbase hfew hline rfl (thn (ho.run F ρ M _ EX W σ H (fun x H1 => ∃ d M1, Step H M H1 M1 ∧ MSt X.K H1 F M1 ∧ DV X.K H1 (um F M1) x d ∧ (∃ l, d = .tpn l) ∧ t ρ M1 (fun ds M2 => TIndexA d ds M2 P) EX) S tk h (fun v d M1 H1 s1 m1 dv q => ⟨d, M1, s1, m1, dv, q⟩) hX pins s I) fun v s1 ⟨x, H1, I1, r1, d, M1, st1, m1, dv, ⟨l, el⟩, q⟩ => ?_)
    subst el
    obtain ⟨h1, h2⟩ := tpn_at I1 r1 dv
    refine ⟨"tuple", "tuple.index", pa, slot, hty, h1, h2, ?_⟩
    have hA := ha.run F ρ M1 _ EX W σ H1 (fun xs H2 => ∃ ds M2, Step H1 M1 H2 M2 ∧ MSt X.K H2 F M2 ∧ DVs X.K H2 (um F M2) xs ds ∧ TIndexA (.tpn l) ds M2 P) (S.step st1 m1) tk q (fun vs ds M2 H2 s2 m2 dvs q2 => ⟨ds, M2, s2, m2, dvs, q2⟩) (hX.step st1) cpos pins s1 I1
    rw [hs] at hA ⊢
    refine Calls.callWith_builtin (by show (false || (backTo cpos (starEach es X.env)).any (·.1)) = false; rw [hplain] <;> rfl) (Calls.evalArgs_plain ?_)
    exact thn hA fun us s2 ⟨vs, H2, I2, r2, ds, M2, st2, m2, dvs, q2⟩ => mt_tindex I2 r1 r2 m2 (dv.step st2) dvs q2 fun z d' M' H' st m d2 p => hP z d' M' H' ((st1.trans st2).trans st) m d2 p⟩

/-! ### what is known of a value may be forgotten -/
inductive WkD : D → D → Prop
  | tpn {l : List D} : WkD (.tpn l) (.tup l)
  | keep {d : D} : WkD d d
def aWk (te : AE) : AE := fun ρ M P EX => te ρ M (fun d M1 => ∃ d', WkD d d' ∧ P d' M1) EX
theorem de_wk {e : Expr} {te : AE} (he : DenE X e te) : DenE X e (aWk te) :=
  ⟨fun F ρ M P EX W σ H Q S tk h hP hX => he.run F ρ M _ EX W σ H Q S tk h (fun v d M1 H1 s1 m1 dv q => by
    obtain ⟨d', hw, q⟩ := q
    cases hw with
    | tpn =>
      obtain ⟨_, _, _, _, _, dv'⟩ := dv.tpn_inv
      exact hP _ _ _ _ s1 m1 dv' q
    | keep => exact hP _ _ _ _ s1 m1 dv q) hX⟩

/-! ### tuple(xs), the tuple known to be plain -/
theorem call_tupleN : CallR X (.type "tuple") (fun xs H Q => ∃ p ys, xs = [.ref p] ∧ SqL X.K H p ys ∧ ∀ l o, H l = none → o.dict = none → Q (.ref l) (upd H l (.frz o (.tup ys)))) := by
  intro pins s σ H xs us Q I r h
  obtain ⟨p, ys, rfl, hq, q⟩ := h
  obtain ⟨u, rfl, rx⟩ := vals1 r
  cases rx
  obtain ⟨its, r', pl, hz⟩ := I.list hq
  have hlen := r'.length
  refine call_tuple_list pl.isList (fun h' kp => ?_) (by simp only [List.size_toArray] <;> omega)
  have I1 : Inv X pins σ H { s with heap := h' } := I.kept (t' := s.toks) kp
  have I2 : Inv X pins σ (upd H h'.objs.size (.frz { cls := .type "tuple", data := .seq its.toArray } (.tup ys))) { s with heap := h'.push { cls := .type "tuple", data := .seq its.toArray } } :=
    I1.laid (t' := s.toks) (fun b o e => Heap.get?_push_of_some _ e) (Nat.le_refl _) ⟨Heap.get?_push_size _ rfl, hz, its, r', IsTup.new _ _⟩
  exact ⟨.ref h'.objs.size, _, I2, rfl, q _ _ (I1.hok.fresh (Nat.le_refl _)) rfl⟩
inductive TupleNA : AC
  | lst {x : D} {l : List D} {M : Mem} {P : AK} : LstR M x l → P (.tpn l) M → TupleNA [x] M P
theorem okc_tupleN : OkC X (.type "tuple") TupleNA := fun F ds vs M P H Q m dv h hP => by
  cases h with
  | lst hs q =>
    cases dv with
    | cons d1 d2 =>
      cases d2
      obtain ⟨a, xs, rfl, e, t⟩ := hs.inv m d1
      refine ⟨_, call_tupleN, a, xs, rfl, e, fun l o hl ho => ?_⟩
      have nl := m.notin hl
      have m1 := mst_new (o := .frz o (.tup xs)) m hl
      have s1 : Step H M (upd H l (.frz o (.tup xs))) M := step_new hl
      exact hP _ _ M _ s1 m1 (.tpn upd_same ho nl (t.step s1)) q
end
end Ab
set_option maxRecDepth 100000
set_option maxHeartbeats 2000000
/-! Ab14: enumerate over a tuple; isinstance and own classes; a caught exception that is kept. -/
namespace PySem
open Sem (wp)
set_option maxHeartbeats 1000000 in
theorem meets_enumerate_new1 {v : Value} {o : Obj} {H : Heap → Prop} (B : Begins v o H) :
    Meets (Builtin.«enumerate.__new__» ⟨[.type "enumerate", v], []⟩) (fun _ R s => H s.heap ∧
      R (.ok (.ret (.ref (s.heap.push o).objs.size))) { s with heap := (s.heap.push o).push { cls := .type "enumerate", data := .fields #[.none, .bool false, .ref s.heap.objs.size, rawInt 0, .none, .none] } }) :=
  .of_wp fun prog w A R s h => by
    obtain ⟨hp, g, d, tk, os⟩ := s; obtain ⟨h1, h⟩ := h
    have hsub := sub_enumerate
    have q1 : ∀ {A' : Around} {E : Value → Shared → Prop} {Q : Value → Shared → Prop}, Q (.ref hp.objs.size) ⟨hp.push o, g, d, tk, os⟩ → wpAny (model prog w) A' (pyIter v) Q E ⟨hp, g, d, tk, os⟩ :=
      fun q => B.iter prog w _ _ ⟨hp, g, d, tk, os⟩ _ h1 q
    wp_walk using q1
    refine wpAny_stack_any fun st => wpAny_pure ?_
    split
    · rename_i c _ _ _ _ _
      cases (c == Value.type "enumerate")
      · wp_walk using q1
        exact ⟨_, rfl, h⟩
      · wp_walk using q1
        exact ⟨_, rfl, h⟩
    · wp_walk using q1
      exact ⟨_, rfl, h⟩
theorem enum_begins1 {prog : Program} {w : World} {A : Around} {E : Value → Shared → Prop} {s : Shared} {v : Value} {o : Obj} {H : Heap → Prop} {Q : Value → Shared → Prop} (B : Begins v o H) (h1 : H s.heap)
    (h : ∀ h', IsEnum h' (s.heap.objs.size + 1) s.heap.objs.size 0 .none → h'.get? s.heap.objs.size = some o → h'.objs.size = s.heap.objs.size + 2 →
      (∀ b o, s.heap.get? b = some o → h'.get? b = some o) → Q (.ref (s.heap.objs.size + 1)) { s with heap := h' }) :
    wpAny (model prog w) A (call (.type "enumerate") [v]) Q E s := by
  refine callType_new F.called_enumerate (by decide) (F.typeCall_enumerate_1 _) (F.newCall_enumerate_1 _) (fun obj => F.args_object_init_2 obj _) F.entry_enumerate_new
    (meets_enumerate_new1 B) ⟨h1, ?_⟩
  have hz : (s.heap.push o).objs.size = s.heap.objs.size + 1 := Heap.size_push ..
  show _ ∧ _
  rw [hz]
  have he : IsEnum ((s.heap.push o).push { cls := .type "enumerate", data := .fields #[.none, .bool false, .ref s.heap.objs.size, rawInt 0, .none, .none] }) (s.heap.objs.size + 1) s.heap.objs.size 0 .none := by
    have := Heap.get?_push_size (s.heap.push o) (o := { cls := .type "enumerate", data := .fields #[.none, .bool false, .ref s.heap.objs.size, rawInt 0, .none, .none] }) rfl
    rw [hz] at this; exact this
  refine ⟨⟨_, he, rfl⟩, h _ he (Heap.get?_push_of_some _ (Heap.get?_push_size _ B.free)) (by rw [Heap.size_push, hz]) fun b o x => Heap.get?_push_of_some _ (Heap.get?_push_of_some _ x)⟩
end PySem
namespace Ab
open PySem L2 PyProof.Rows
/-- the tuple at a, each item in a new pair -/
def IteT (K : PySem.W.Frag) (a : Addr) : It :=
  ⟨fun i H => ∃ (xs : List V) (x : V), SqT K H a xs ∧ xs[i]? = some x, fun i H v H' => ∃ T x, v = .ref T ∧ H T = none ∧ H' = upd H T (.tup [.int (i : Nat), x]) ∧ ∀ xs, SqT K H a xs → xs[i]? = some x, fun i H => ∃ xs : List V, SqT K H a xs ∧ xs.length ≤ i⟩
theorem turn_enumT {P : Program} {w : World} {K : PySem.W.Frag} {elts : List Expr} {kk : Nat} {tpos : Pos} (a e it : Addr) :
    Turn P w K (.Tuple elts kk tpos) (IteT K a) [e, it] e (fun i h => (∃ old, IsEnum h e it ((i : Nat) : Int) old) ∧ h.IsTupleIter it a i ∧ e ≠ it ∧ a ≠ it ∧ a ≠ e) where
  mem := by simp
  obj := fun i h st b hb => by
    obtain ⟨⟨old, he⟩, ⟨o, ho, hc, hd⟩, _⟩ := st
    have e' : b = e ∨ b = it := by simpa using hb
    rcases e' with z | z
    · rw [z]; exact ⟨_, he, fun v q => nomatch q⟩
    · rw [z]; exact ⟨o, ho, fun v q => by rw [hd] at q; cases q⟩
  keep := fun i h h' st k => let ⟨⟨old, he⟩, hi, hne⟩ := st; ⟨⟨old, k e (by simp) _ he⟩, hi.at fun o q => k it (by simp) o q, hne⟩
  item := by
    intro X hP hw hK hc i pins s σ H E I hf st hg
    subst hP hw hK
    obtain ⟨⟨old, he⟩, hit, hne, na, ne2⟩ := st
    obtain ⟨xs, x, hq, hx⟩ := hg
    obtain ⟨its, rv, p, hz⟩ := I.tuple hq
    obtain ⟨u, hu, ru⟩ := rv.get hx
    have hel : e < s.heap.objs.size := Heap.lt_size he
    have hil : it < s.heap.objs.size := by obtain ⟨_, q, _⟩ := hit; exact Heap.lt_size q
    have hlt : i < its.toArray.size := by simpa using (List.getElem?_eq_some_iff.mp hu).1
    refine wpAny_pyNext_enum_itemD (Draws.tuple (by exact I.ok.hd hc) it a na its.toArray) he ⟨hit, (show s.heap.IsTuple a its.toArray from p)⟩ hlt hne (by simp [hne, Ne.symm ne2]) fun y h' tk hy ho hst hT hsz hk => ?_
    have hy' : its[i]? = some y := by simpa using hy
    rw [hu] at hy'
    cases hy'
    refine ⟨_, rfl, wpAny_letOwnedTupleGo_enum (s := { s with heap := h', toks := tk + 1 }) ho fun h'' he' sb => ?_⟩
    have hT2 : h''.get? s.heap.objs.size = some { cls := .type "tuple", data := .seq #[.int i tk, u] } := (sb.2 _ (Nat.ne_of_gt hel)).trans hT
    have new : ObjOk X.prog X.w (upd H s.heap.objs.size (.tup [.int (i : Nat), x])) h'' s.heap.objs.size (.tup [.int (i : Nat), x]) :=
      ⟨by show 2 ≤ sizeLine; decide, [.int i tk, u], .cons ⟨_, rfl⟩ (.cons ru .nil), ⟨_, hT2, rfl, _, rfl⟩⟩
    have I1 : Inv X pins σ (upd H s.heap.objs.size (.tup [.int (i : Nat), x])) { s with heap := h'', toks := tk + 1 } :=
      I.turnedNew (ch := [e, it]) (fun b ob hb q => (sb.2 b (fun z => hb (by simp [z]))).trans (hk b ob (fun z => hb (by simp [z])) (fun z => hb (by simp [z])) q)) hf (Nat.le_refl _) new
    refine ⟨.ref s.heap.objs.size, _, I1, rfl, ⟨_, x, rfl, I.hok.fresh (Nat.le_refl _), rfl, fun ys hy => by rw [I.tuple_inj hy hq]; exact hx⟩, ⟨⟨u, ?_⟩, hst.1.at fun o q => (sb.2 it (Ne.symm hne)).trans q, hne, na, ne2⟩, fun b hb => ?_⟩
    · have e1 : ((i + 1 : Nat) : Int) = (i : Int) + 1 := by omega
      rw [e1]; exact he'
    · have hb' : b < s.heap.objs.size := by
        have e' : b = e ∨ b = it := by simpa using hb
        rcases e' with z | z
        · rw [z]; exact hel
        · rw [z]; exact hil
      rw [upd_ne (Nat.ne_of_lt hb')]
      exact (hf b hb).1
  done := by
    intro X hP hw hK hc i pins s σ H E I hf st hg
    subst hP hw hK
    obtain ⟨⟨old, he⟩, hit, hne, na, ne2⟩ := st
    obtain ⟨xs, hq, hx⟩ := hg
    obtain ⟨its, rv, p, hz⟩ := I.tuple hq
    obtain ⟨f0, f1, f2, f3, f4, f5⟩ := hf it (by simp)
    have hl := rv.length
    have hle : its.toArray.size ≤ i := by simp; omega
    have hT : s.TypeIs (.ref e) "enumerate" := ⟨_, he, rfl⟩
    unfold pyNext
    refine wpAny_bind (wpAny_attempt (wpAny_callSpecial?_slot (name := Str.ofString "__next__") hT F.slot_enumerate_next
      (wpAny_call_entry F.slot_enumerate_next hT F.entry_enumerate_next ?_ (F.args_enumerate_next_1 _))))
    show wpAny _ _ (field (.ref e) 2 >>= _) _ _ _
    refine wpAny_bind (wpAny_field he rfl (x := .ref it) rfl ?_)
    refine wpAny_bind (wpAny_nextOf_tuple_end (by exact I.ok.hd hc) hit (show s.heap.IsTuple a its.toArray from p) (Array.getElem?_eq_none hle) fun h' x he' hx' => ?_)
    obtain ⟨o, ho, hc'⟩ := hx'
    refine wpAny_bind (wpAny_isInstance (T := "StopIteration") (b := true) ⟨o, ho, hc'⟩ isSubtype_stop ?_)
    exact wpAny_pure ⟨rfl, I.turned (t' := s.toks) (fun b o hb q => he' b o hb q) f0 f1 f3 f4 f5⟩
  self := fun A i s Q E st h => let ⟨⟨_, he⟩, _⟩ := st; wpAny_pyIter_enum he h
def iEnumT (K : PySem.W.Frag) (ta : TA) : TI := fun σ H R => ta σ H fun vs H1 => ∃ a xs, vs = [.ref a] ∧ SqT K H1 a xs ∧ R (IteT K a) H1
theorem pi_enumT {X : Cx} {e : Expr} {ta : TA} {p pos tpos : Pos} {elts : List Expr} {kk : Nat} (hg : Gl X "enumerate") (hm : X.mg "enumerate" = none) (ha : PA X [e] ta) (hs : starEach [e] X.env = [(false, eval e X.env)] := by rfl) :
    PI X (.Tuple elts kk tpos) (.Call (.Name "enumerate" p) [e] [] pos) (iEnumT X.K ta) := by
  refine ⟨fun pins s σ H R I h => ?_⟩
  refine Call_ (ld_blt I hg hm boot_enumerate (PyProof.Rows.callWith_type1 (thn (ha.run pos pins s σ H _ I h) fun us s1 ⟨vs, H1, I1, r1, q1⟩ => ?_) hs rfl))
  obtain ⟨a, xs, ex, hq, q⟩ := q1
  subst ex
  cases r1 with
  | cons r rr =>
    cases rr
    cases r
    obtain ⟨its, rv, p', hz⟩ := I1.tuple hq
    have hal : a < s1.heap.objs.size := let ⟨_, e, _⟩ := p'; Heap.lt_size e
    refine enum_begins1 (begins_tuple a its.toArray) p' fun h' he hit hsz hk => wpAny_pyIter_enum he ?_
    have I2 : Inv X pins σ H1 { s1 with heap := h' } := I1.kept (t' := s1.toks) hk
    refine ⟨s1.heap.objs.size + 1, [s1.heap.objs.size + 1, s1.heap.objs.size], _, _, H1, rfl, I2, turn_enumT a (s1.heap.objs.size + 1) s1.heap.objs.size, ⟨⟨.none, he⟩, ⟨_, hit, rfl, rfl⟩, Nat.succ_ne_self _, Nat.ne_of_lt hal, Nat.ne_of_lt (Nat.lt_succ_of_lt hal)⟩, fun b hb => ?_, q⟩
    have e' : b = s1.heap.objs.size + 1 ∨ b = s1.heap.objs.size := by simpa using hb
    have hle : s1.heap.objs.size ≤ b := by
      rcases e' with z | z
      · rw [z]; exact Nat.le_add_right _ _
      · rw [z]; exact Nat.le_refl _
    exact I1.fpOk hle (I1.hok.fresh hle)
section
variable {X : Cx} {e : Expr} {t : AA} {p pos tpos : Pos} {elts : List Expr} {kk : Nat}
def iEnumTA (t : AA) : AI := fun ρ M P EX => t ρ M (fun ds M1 => ∃ l, ds = [.tup l] ∧ P (enumD l) M1) EX
theorem di_enumT (hm : X.mg "enumerate" = none) (ha : DenA X [e] t) (hg : Gl X "enumerate" := by rfl) (hs : starEach [e] X.env = [(false, eval e X.env)] := by rfl) : DenI X (.Tuple elts kk tpos) (.Call (.Name "enumerate" p) [e] [] pos) (iEnumTA t) :=
  ⟨fun F ρ M P EX W σ H R S tk h hP hX => fun pins s I => (pi_enumT hg hm (pa_gw (X := X)) hs).run pins s σ H R I
    (ha.run F ρ M _ EX W σ H _ S tk h (fun vs ds M1 H1 s1 m1 dv q => by
      obtain ⟨l, rfl, q⟩ := q
      cases dv with
      | cons d1 d2 =>
        cases d2
        obtain ⟨a, xs, rfl, hA, kA⟩ := d1.seqU
        refine ⟨a, xs, rfl, hA, hP _ _ M1 H1 s1 m1 (fun F' H' M' s' f' m' => ?_) q⟩
        obtain ⟨h1, h2⟩ := kA F' H' M' s' f'
        refine ⟨fun i d e => ?_, ⟨xs, h1, by rw [enumD_length]; exact Nat.le_of_eq h2.length⟩⟩
        obtain ⟨x, ex, rfl⟩ := enumD_get e
        obtain ⟨v, ev, dx⟩ := h2.get ex
        refine ⟨⟨xs, v, h1, ev⟩, fun y H2 z => ?_⟩
        obtain ⟨T, w, rfl, hT, rfl, hw⟩ := z
        have := hw xs h1
        rw [ev] at this; cases this
        exact new_tup m' hT (.cons (.int _) (DVs.one dx))) hX)⟩
end
end Ab
set_option maxRecDepth 100000
set_option maxHeartbeats 4000000
/-! Ab15: a caught exception that is kept; isinstance and own classes; keyword-only parameters. -/
namespace Ab
open PySem PySem.Spec L2 PyProof.Rows
section
variable {X : Cx} {pins : List (Addr × Obj)} {σ : L2.St} {H : Hp} {s : Shared}
/-- an object of ours, pinned and not tracked, new since the entry: from here on tracked -/
theorem Inv_track {a : Addr} {oe : Obj} {φ : Heap → Prop} (I : L2.Inv X ((a, oe) :: pins) σ H s) (h0 : X.s_0.heap.get? a = none) (hp : ∀ p ∈ X.pn ++ pins, p.1 ≠ a) (hφ : φ s.heap) (hs : ∀ h1 h2 : Heap, φ h1 → (∀ o, h1.get? a = some o → h2.get? a = some o) → φ h2) :
    L2.Inv X pins σ (upd H a (.ext φ)) s := by
  obtain ⟨e, na, nL, nF, nc⟩ := I.pin (a, oe) (List.mem_append_right _ List.mem_cons_self)
  have ne : ∀ {b : Addr} {o : Obj}, X.s_0.heap.get? b = some o → b ≠ a := fun {b o} q z => by rw [z, h0] at q; cases q
  refine ⟨I.ok, I.os, I.bare, ⟨I.base.keep, I.base.slot, fun b o q n hx => ?_, I.base.there, fun b xs q => ?_, fun b o u q => ?_, fun b ps q => ?_⟩, I.loc, I.cell, ?_, fun x c q => ?_, fun p hm => ?_, ?_, I.len⟩
  · rw [upd_ne (ne q)]; exact I.base.free b o q n hx
  · have z := I.base.tups b xs q
    rw [upd_ne (ne_of_none z na)]; exact z
  · have z := I.base.frzs b o u q
    rw [upd_ne (ne_of_none z na)]; exact z
  · obtain ⟨more, z⟩ := I.base.tbls b ps q
    exact ⟨more, by rw [upd_ne (ne_of_none z na)]; exact z⟩
  · rw [upd_ne (Ne.symm nL)]; exact I.free
  · have nca : c ≠ a := fun z => by
      obtain ⟨v, w⟩ := I.cell x c q
      rw [z] at w
      obtain ⟨o, q1, q2⟩ := w
      rw [e] at q1; cases q1
      exact nc _ q2
    rw [upd_ne nca]; exact I.freeC x c q
  · have hm' : p ∈ X.pn ++ (a, oe) :: pins := by
      rcases List.mem_append.mp hm with z | z
      · exact List.mem_append_left _ z
      · exact List.mem_append_right _ (List.mem_cons_of_mem _ z)
    obtain ⟨q1, q2, q3⟩ := I.pin p hm'
    exact ⟨q1, by rw [upd_ne (hp p hm)]; exact q2, q3⟩
  · exact HOk.laidN I.hok (fun b u q => q) na ⟨hφ, ⟨oe, e⟩, hs⟩
end

/-- an exception object of the class cls, its dict d -/
def ExT (cls : Value) (d : Option Addr) (a : Addr) : HO := .ext fun h => ∃ (oe : Obj) (vs : Array Value), h.get? a = some oe ∧ Zc cls d oe ∧ oe.data = .fields vs
/-- what the clause 'except x as n' wishes, the exception kept behind its suite -/
def wAsK (K : PySem.W.Frag) (c : Value) (i : Nat) (ts : Addr → Value → Option Addr → TS) (Wout : WX) (D : Ends) : WX := fun cls d σ H =>
  ∃ b, PySem.W.exmOne K cls c = some b ∧ (b = true → ∀ a, H a = none → ts a cls d { nx := fun σ' H' => D.nx (σ'.set i none) (upd H' a (ExT cls d a)), rt := fun v H' => D.rt v (upd H' a (ExT cls d a)), bk := fun σ' H' => D.bk (σ'.set i none) (upd H' a (ExT cls d a)), ct := fun σ' H' => D.ct (σ'.set i none) (upd H' a (ExT cls d a)) } (σ.set i (some (.ref a))) H) ∧
    (b = false → Wout cls d σ H)
section
variable {X : Cx} {x n : Str} {c : Value} {i : Nat} {body suite : List Stmt} {b₀ : Stmt} {np pos pos' : Pos} {tb : WX → TS} {ts : Addr → Value → Option Addr → TS} {Wout : WX}
theorem ps_try_kept (hx : X.ex = []) (hs : X.stack = X.env :: X.outer) (hf : X.env.frame = some X.env.locals) (hN : X.N.Nodup) (hi : X.N[i]? = some n) (hln : X.env.kindOf n = some .local) (hc : Names X x c) (tk : Takes X Wout)
    (hb : ∀ (W : WX) (pn : List (Addr × Obj)) (xe : Value → Shared → Prop), Takes (X.tr pn xe) W → PassesOwn (model X.prog X.w) X.A X.env xe → PSs (X.tr pn xe) body (tb W))
    (hsu : ∀ (a : Addr) (oe : Obj) (cls : Value) (d : Option Addr) (pn : List (Addr × Obj)), Zc cls d oe → (∃ vs, oe.data = .fields vs) → PSs (X.suite a ((a, oe) :: pn)) (b₀ :: suite) (ts a cls d)) :
    PS X (.Try body [.ExceptHandler (some (.Name x np)) (some n) (b₀ :: suite) pos'] [] [] pos) (fun D σ H => tb (wAsK X.K c i ts Wout D) D σ H) := by
  refine ⟨fun pins s σ H D I h => ?_⟩
  have ok := I.ok
  have hfr : X.A.frames = some (X.env :: X.outer) := by rw [ok.frames, hs]
  have hloc : Loc X.env.scope n := .inl hln
  refine wpAny_Try_except ?_
  refine wpAny_mono ((hb (wAsK X.K c i ts Wout D) (X.pn ++ pins) (fun e s₁ => wpAny (model X.prog X.w) X.A (noteFrame e X.env) (fun _ s₂ => wpAny (model X.prog X.w) X.A (setFlight e none) (fun _ s₃ =>
    wpAny (model X.prog X.w) X.A (handleBy e X.env [.ExceptHandler (some (.Name x np)) (some n) (b₀ :: suite) pos']) (SP X pins D) X.xe s₃) X.xe s₂) X.xe s₁) (fun u s' xx => ?_) PassesOwn.looking).run [] s σ H D (I.toTry _) h) (fun f s1 hsp => ?_) (fun e s1 he => he)
  · -- the catch
    obtain ⟨a, B, sI, pins', σ', H', cls, d, rfl, J', nb, up, sky, na, os, ag, b, hb1, hyes, hno⟩ := xx
    have J : Inv X pins σ' H' sI := J'.ofTry ok
    have sky' : Sky B (X.env :: X.outer) a (Zc cls d) X.env.locals s'.heap := by rw [← hs]; exact sky
    show wpAny (model X.prog X.w) X.A (noteFrame (.ref a) X.env) _ _ _
    refine Sky.land Zc.steady hfr hf sky' fun h3 fl3 up3 => ?_
    have J3 : Inv X pins σ' H' { s' with heap := h3 } := J.landed nb fl3.1 (up.trans up3) os ag
    obtain ⟨oe3, vs3, he3, hz3, hd3⟩ := fl3.there
    have notFr : ∀ {h : Heap} {o : Obj} {vs : Array Value}, h.FunFrames B (X.env :: X.outer) → h.get? a = some o → o.data = .fields vs → a ∉ frs (X.env :: X.outer) := fun {h o vs} ff e dd hm => by
      obtain ⟨_, o', e', hnf⟩ := ff.mem hm
      rw [e] at e'; cases e'
      exact hnf _ dd
    have nfr := notFr fl3.2.2.1 he3 hd3
    have nL : a ≠ X.env.locals := fun z => nfr (List.mem_filterMap.mpr ⟨X.env, List.mem_cons_self, by rw [hf, z]⟩)
    have nF : a ∉ X.fs := fun hm => by
      obtain ⟨e, he, q⟩ := List.mem_filterMap.mp hm
      exact nfr (List.mem_filterMap.mpr ⟨e, List.mem_cons_of_mem _ he, q⟩)
    have S3 := J3.suite he3 hd3 na nL nF
    refine wpAny_handleBy_cons (codeAny_handlers_test ?_) (by intro q; cases q)
    have LT : PySem.W.Looks (model X.prog X.w) h3 (typeOf (.ref a)) cls := fun A Q E s k q => wpAny_typeOf_ref (k _ _ he3) (by rw [hz3.1]; exact q)
    have LM := PySem.W.exm_one (M := model X.prog X.w) (J3.kIn) LT hb1
    have test : ∀ {Q : Value → Shared → Prop} {E : Value → Shared → Prop}, Q c { s' with heap := h3 } → wpAny (model X.prog X.w) (X.A.mark (some (.ref a))) (eval (.Name x np) X.env) Q E { s' with heap := h3 } := fun {Q E} q => by
      obtain ⟨hg, hdbg, hm | ⟨hm, hv, hnn⟩⟩ := hc
      · exact ld_glob (X := X.suite a ((a, oe3) :: (X.pn ++ pins))) S3 hg hm q hdbg
      · exact ld_blt (X := X.suite a ((a, oe3) :: (X.pn ++ pins))) S3 hg hm hv q hnn hdbg
    refine test (LM.here ?_)
    cases b with
    | true =>
      refine codeAny_handlers_suite_as ?_
      refine HandSPX.lands_againZ fl3 fun h4 fl4 up4 => ?_
      have J4 : Inv X pins σ' H' { s' with heap := h4 } := J.landed nb fl4.1 ((up.trans up3).trans up4) os ag
      obtain ⟨oe4, vs4, he4, hz4, hd4⟩ := fl4.there
      have S4 := J4.suite he4 hd4 na nL nF
      refine store_ok (X := X.suite a ((a, oe4) :: (X.pn ++ pins))) (v := .ref a) S4 hN hi hloc rfl (fun s5 S5 => ?_) (.inr hln)
      refine wpAny_mono ((hsu a oe4 cls d (X.pn ++ pins) hz4 ⟨_, hd4⟩).run [] s5 _ H' _ S5 (hyes rfl a na)) (fun f s6 hsp => ?_) (fun _ _ z => False.elim z)
      -- a is new since the entry
      have nI : sI.heap.get? a = none := by
        cases q : sI.heap.get? a with
        | none => rfl
        | some o =>
          have nfs : a ∉ frs X.stack := by rw [hs]; exact nfr
          have z := nb a o q nfs
          rcases sky' with ⟨_, b0, _⟩ | b0 | b0
          · rw [b0] at z; cases z
          · rw [b0.2.1] at z; cases z
          · rw [b0.2.1] at z; cases z
      have n0 : X.s_0.heap.get? a = none := by
        cases q : X.s_0.heap.get? a with
        | none => rfl
        | some o =>
          obtain ⟨o', z⟩ := J.base.there a o q (by rw [hx]; exact List.not_mem_nil)
          rw [nI] at z; cases z
      have npin : ∀ p ∈ X.pn ++ pins, p.1 ≠ a := fun p hp z => by
        have := (J.pin p hp).1
        rw [z, nI] at this; cases this
      have end_ : ∀ {σ6 : L2.St} {H6 : Hp} {Q : Shared → Prop}, L2.Inv (X.suite a ((a, oe4) :: (X.pn ++ pins))) [] σ6 H6 s6 → (∀ s7, L2.Inv X pins (σ6.set i none) (upd H6 a (ExT cls d a)) s7 → Q s7) →
          wpAny (model X.prog X.w) X.A (do bindName X.env n .none; unbindBehindTheSuite X.env n pos') (fun _ s7 => Q s7) X.xe s6 := fun {σ6 H6 Q} S6 hq => by
        have S7 : L2.Inv X ((a, oe4) :: pins) σ6 H6 s6 := ⟨ok, S6.os, S6.bare, S6.base, S6.loc, S6.cell, S6.free, S6.freeC, fun p hp => by
          refine S6.pin p (List.mem_append_left _ ?_)
          rcases List.mem_append.mp hp with z | z
          · exact List.mem_cons_of_mem _ (List.mem_append_left _ z)
          · rcases List.mem_cons.mp z with z | z
            · rw [z]; exact List.mem_cons_self
            · exact List.mem_cons_of_mem _ (List.mem_append_right _ z), S6.hok, S6.len⟩
        refine gone_ok S7 hN hi hln fun s7 S8 => hq s7 (Inv_track S8 n0 npin ?_ ?_)
        · exact ⟨oe4, vs4, (S8.pin (a, oe4) (List.mem_append_right _ List.mem_cons_self)).1, hz4, hd4⟩
        · rintro h1 h2 ⟨o, vs, e, z, dd⟩ k
          exact ⟨o, vs, k _ e, z, dd⟩
      cases f with
      | next =>
        obtain ⟨σ6, H6, S6, q6⟩ := hsp
        exact end_ S6 fun s7 J7 => ⟨_, _, J7, q6⟩
      | brk =>
        obtain ⟨σ6, H6, S6, q6⟩ := hsp
        exact end_ S6 fun s7 J7 => ⟨_, _, J7, q6⟩
      | cont =>
        obtain ⟨σ6, H6, S6, q6⟩ := hsp
        exact end_ S6 fun s7 J7 => ⟨_, _, J7, q6⟩
      | ret u =>
        obtain ⟨v6, σ6, H6, S6, r6, q6⟩ := hsp
        exact end_ S6 fun s7 J7 => ⟨_, _, _, J7, r6, q6⟩
    | false =>
      show wpAny _ X.A (handleBy (.ref a) X.env []) _ _ _
      refine wpAny_handleBy_nil ?_
      obtain ⟨k1, k2, k3, oe, vs, T, oT, ts', he, hz, hd, h1, hr⟩ := id fl3
      unfold PySem.passOn
      refine wpAny_bind (wpAny_field he hd h1 ?_)
      rw [if_neg (show ¬ ((Value.ref T == Value.none) = true) from by simp)]
      have fin : wpAny (model X.prog X.w) X.A (setFlight (.ref a) X.env.frame) (fun _ s4 => wpAny (model X.prog X.w) X.A (throw (.ref a) : Sem Flow) (SP X pins D) X.xe s4) X.xe { s' with heap := h3 } := by
        rw [hf]
        refine HandSPX.setFlight_upZ fl3 fun h4 hh4 up4 => wpAny_throw (tk _ _ ?_)
        exact ⟨a, B, sI, pins, σ', H', cls, d, rfl, J, nb, (up.trans up3).trans up4, .inr (.inr (by rw [hs]; exact hh4)), na, os, ag, hno rfl⟩
      first
        | exact wpAny_bind (wpAny_pure (wpAny_bind fin))
        | exact wpAny_bind fin
  · cases f with
    | next =>
      obtain ⟨σ', H', J', q⟩ := hsp
      exact wpAny_execs_nil ⟨σ', H', J'.ofTry ok, q⟩
    | brk =>
      obtain ⟨σ', H', J', q⟩ := hsp
      exact ⟨σ', H', J'.ofTry ok, q⟩
    | cont =>
      obtain ⟨σ', H', J', q⟩ := hsp
      exact ⟨σ', H', J'.ofTry ok, q⟩
    | ret u =>
      obtain ⟨v, σ', H', J', r, q⟩ := hsp
      exact ⟨v, σ', H', J'.ofTry ok, r, q⟩
end
/-- try: body / except x as n: y = n; the exception kept -/
def aTryK (i j : Nat) (yes no : List Addr) (t : AS) : AS := fun ρ M k => t ρ M { k with ex := fun xe ρ' M' =>
  (xe.cls ∈ yes ∧ xe.fs = none ∧ i < ρ'.length ∧ j < ρ'.length ∧ k.nx (unS (sS ρ' j (.exc xe.cls)) i) M') ∨ (xe.cls ∈ no ∧ k.ex xe ρ' M') }
section
variable {X : Cx} {x n y : Str} {i j : Nat} {cl : Addr} {body : List Stmt} {np p1 p2 pos pos' pos2 : Pos} {t : AS} {yes no : List Addr}
theorem ds_tryKeep (hc : Names X x (.ref cl)) (hb : ∀ (pn : List (Addr × Obj)) (xe : Value → Shared → Prop), PassesOwn (model X.prog X.w) X.A X.env xe → DenB (X.tr pn xe) body t)
    (hyes : ∀ C ∈ yes, PySem.W.exmOne X.K (.ref C) (.ref cl) = some true) (hno : ∀ C ∈ no, PySem.W.exmOne X.K (.ref C) (.ref cl) = some false) (hN : X.N.Nodup)
    (hx : X.ex = [] := by rfl) (hs : X.stack = X.env :: X.outer := by rfl) (hf : X.env.frame = some X.env.locals := by rfl) (hi : X.N[i]? = some n := by rfl) (hln : X.env.kindOf n = some .local := by rfl)
    (hj : X.N[j]? = some y := by rfl) (hly : X.env.kindOf y = some .local := by rfl) (hy : Loc X.env.scope y := by exact .inl rfl) (hij : i ≠ j := by decide) (hvn : Vis X.env.scope n := by first | exact Or.inl rfl | exact Or.inr (Or.inl rfl) | exact Or.inr (Or.inr rfl))
    (hd : (n == ("__debug__" : Str)) = false := by decide) (hcd : (n == ("__classdict__" : Str)) = false := by decide)
    (hsw : ∀ a pn, swapsWith (.Name n p2) (some (.Name y p1)) pos2.line (X.suite a pn).env = pure false := by intro _ _; rfl) (hfy : ∀ a pn, (X.suite a pn).fn y = true ∨ (X.suite a pn).env.scope.names.lookup y = some .local := by intro _ _; exact .inr rfl) :
    DenS X (.Try body [.ExceptHandler (some (.Name x np)) (some n) [.Assign [.Name y p1] (.Name n p2) pos2] pos'] [] [] pos) (aTryK i j yes no t) :=
  ⟨fun F ρ M k W σ H D S tk h L => fun pins s I => by
    refine (ps_try_kept (X := X) (tb := fun W' D σ H => ∀ (pn : List (Addr × Obj)) (xe : Value → Shared → Prop), Takes (X.tr pn xe) W' → PassesOwn (model X.prog X.w) X.A X.env xe → BW (X.tr pn xe) body D σ H)
      (ts := fun _ _ _ => tAsg (tVar i) (gName j)) (Wout := W) hx hs hf hN hi hln hc tk (fun W' pn xe tk' hp => ⟨fun pins s σ H D I h => h pn xe tk' hp pins s I⟩)
      (fun a oe cls d pn hz hv => pss_one (ps_set hN hj hy (pe_var hi hvn hd hcd) (hsw _ _) (hfy _ _)))).run pins s σ H D I ?_
    intro pn xe tk' hp
    refine (hb pn xe hp).run F ρ M _ _ σ H D ⟨S.sl, S.ms⟩ tk' h ⟨fun ρ' M' σ' H' s S' q => L.nx ρ' M' σ' H' s ⟨S'.sl, S'.ms⟩ q, L.rt, fun ρ' M' σ' H' s S' q => L.bk ρ' M' σ' H' s ⟨S'.sl, S'.ms⟩ q, fun ρ' M' σ' H' s S' q => L.ct ρ' M' σ' H' s ⟨S'.sl, S'.ms⟩ q, fun e ρ' M' cls d σ' H' s S' xv q => ?_⟩
    obtain ⟨ecls, efs⟩ := xv
    subst ecls
    rcases q with ⟨hm, e0, l1, l2, q⟩ | ⟨hm, q⟩
    · rw [e0] at efs
      have efs' : d = none := efs
      subst efs'
      refine ⟨true, hyes _ hm, fun _ a ha => ?_, (fun z => Bool.noConfusion z)⟩
      have len := S'.sl.len
      refine ⟨.ref a, by rw [List.getElem?_set_self (by omega)], ?_⟩
      have na : a ∉ um F M' := S'.ms.notin ha
      have st : Step H' M' (upd H' a (ExT (.ref e.cls) none a)) M' := step_new ha
      refine L.nx _ M' _ _ (s.trans st) ⟨⟨?_, fun q0 d0 e1 => ?_⟩, mst_new S'.ms ha⟩ q
      · rw [unS_set, sS_set]
        simp only [List.length_set]
        exact len
      · rw [unS_set, sS_set] at e1
        by_cases c1 : q0 = i
        · subst c1
          rw [List.getElem?_set_self (by simpa using l1)] at e1
          cases e1
        · rw [List.getElem?_set_ne (Ne.symm c1)] at e1
          rw [List.getElem?_set_ne (Ne.symm c1)]
          by_cases c2 : q0 = j
          · subst c2
            rw [List.getElem?_set_self l2] at e1
            cases e1
            exact ⟨.ref a, by rw [List.getElem?_set_self (by rw [List.length_set]; omega)], .exc upd_same na⟩
          · rw [List.getElem?_set_ne (Ne.symm c2)] at e1
            obtain ⟨v, w1, w2⟩ := S'.sl.at_ q0 d0 e1
            exact ⟨v, by rw [List.getElem?_set_ne (Ne.symm c2), List.getElem?_set_ne (Ne.symm c1)]; exact w1, w2.step st⟩
    · exact ⟨false, hno _ hm, (fun z => Bool.noConfusion z), fun _ => L.ex e ρ' M' _ d σ' H' s ⟨S'.sl, S'.ms⟩ ⟨rfl, efs⟩ q⟩⟩
end
end Ab
set_option maxRecDepth 100000
set_option maxHeartbeats 4000000
/-! Ab16: isinstance of a kept exception; keyword-only parameters without other defaults. -/
namespace Ab
open PySem PySem.Spec L2 PyProof.Rows
section
variable {X : Cx}
theorem exk_at {pins : List (Addr × Obj)} {σ : L2.St} {H : Hp} {s : Shared} {a D : Addr} (I : L2.Inv X pins σ H s) (e : H a = some (ExK D a)) : ∃ oe, PySem.W.InstAt s.heap a oe D none := by
  obtain ⟨⟨oe, vs, hget, ⟨h1, h2⟩, hv⟩, _⟩ := (show ObjOk X.prog X.w H s.heap a (ExK D a) from I.hok a _ e)
  refine ⟨oe, ?_⟩
  obtain ⟨oc, od, oda, osl⟩ := oe
  dsimp only at h1 h2 hv
  subst h1 h2 hv
  exact ⟨hget, rfl, rfl, trivial⟩
theorem call_isiX : CallR X (.builtin "isinstance") (fun xs H Q => ∃ (a D : Addr) (c : V) (cv : Value) (b : Bool), xs = [.ref a, c] ∧ H a = some (ExK D a) ∧ ExcC X.K D ∧ ClsV c cv ∧ PySem.W.kitOne X.K (.ref D) cv = some b ∧ Q (.bl b) H) := by
  intro pins s σ H xs us Q I r h
  obtain ⟨a, D, c, cv, b, rfl, e, C, k, hk, q⟩ := h
  obtain ⟨u1, u2, rfl, r1, r2⟩ := vals2 r
  cases r1
  have e2 := k.eq r2
  subst e2
  obtain ⟨oe, J⟩ := exk_at I e
  exact PySem.W.kia_one (PySem.W.handS_kitx_exc C.hg C.hk C.hs C.hd C.ha C.hn C.ht C.hm) I.kIn J hk (fun z => nomatch z) fun tk => ⟨.bl b, H, I.kept (t' := tk) fun _ _ z => z, rfl, q⟩
theorem call_isiXT : CallR X (.builtin "isinstance") (fun xs H Q => ∃ (a D tp : Addr) (cs : List V) (us : List Value) (b : Bool), xs = [.ref a, .ref tp] ∧ H a = some (ExK D a) ∧ ExcC X.K D ∧ SqT X.K H tp cs ∧ Paired ClsV cs us ∧ PySem.W.kitAny X.K (.ref D) us = some b ∧ Q (.bl b) H) := by
  intro pins s σ H xs us Q I r h
  obtain ⟨a, D, tp, cs, ws, b, rfl, e, C, hT, k, hk, q⟩ := h
  obtain ⟨u1, u2, rfl, r1, r2⟩ := vals2 r
  cases r1
  cases r2
  obtain ⟨oe, J⟩ := exk_at I e
  obtain ⟨its, rv, ⟨o, h1, h2, n, h3⟩, _⟩ := I.tuple hT
  have e3 := ClsV.all k rv
  subst e3
  obtain ⟨oc, od, dt, sl⟩ := o
  simp only at h2 h3
  subst h2 h3
  exact PySem.W.kia_tup (PySem.W.handS_kitx_exc C.hg C.hk C.hs C.hd C.ha C.hn C.ht C.hm) I.kIn J h1 hk (fun z => nomatch z) fun tk => ⟨.bl b, H, I.kept (t' := tk) fun _ _ z => z, rfl, q⟩
/-- isinstance(x, C), isinstance(x, (C1, ..)): x a kept exception; tab: the classes' answers -/
inductive IsiXA (tab : List (Addr × List Addr × Bool)) : AC
  | one {C c : Addr} {b : Bool} {M : Mem} {P : AK} : (C, [c], b) ∈ tab → P (.bl b) M → IsiXA tab [.exc C, .ref c] M P
  | tup {C : Addr} {cs : List Addr} {b : Bool} {M : Mem} {P : AK} : (C, cs, b) ∈ tab → P (.bl b) M → IsiXA tab [.exc C, .tup (cs.map D.ref)] M P
theorem cls_refs {K : PySem.W.Frag} {H : Hp} {U : List Addr} : ∀ {cs : List Addr} {vs : List V}, DVs K H U vs (cs.map D.ref) → Paired ClsV vs (cs.map Value.ref)
  | [], _, .nil => .nil
  | c :: cs, _, .cons a b => by cases a; exact .cons (.own c) (cls_refs b)
theorem okc_isiX {tab : List (Addr × List Addr × Bool)} (h : ∀ t ∈ tab, ExcC X.K t.1 ∧ PySem.W.kitAny X.K (.ref t.1) (t.2.1.map Value.ref) = some t.2.2) (h1 : ∀ t ∈ tab, ∀ c, t.2.1 = [c] → PySem.W.kitOne X.K (.ref t.1) (.ref c) = some t.2.2) : OkC X (.builtin "isinstance") (IsiXA tab) := fun F ds vs M P H Q m dv hh hP => by
  cases hh with
  | one ht q =>
    cases dv with
    | cons d1 d2 =>
      cases d2 with
      | cons d2 d3 =>
        cases d3
        cases d1 with
        | exc e hn =>
          cases d2
          exact ⟨_, call_isiX, _, _, _, _, _, rfl, e, (h _ ht).1, .own _, h1 _ ht _ rfl, hP _ _ M H (Step.refl H M) m (.bl _) q⟩
  | tup ht q =>
    cases dv with
    | cons d1 d2 =>
      cases d2 with
      | cons d2 d3 =>
        cases d3
        cases d1 with
        | exc e hn =>
          obtain ⟨tp, xs, rfl, hT, t⟩ := d2.tup_inv
          exact ⟨_, call_isiXT, _, _, _, _, _, _, rfl, e, (h _ ht).1, hT, cls_refs t, (h _ ht).2, hP _ _ M H (Step.refl H M) m (.bl _) q⟩
end

/-! ### keyword-only parameters -/
section
variable {P : Program} {w : World} {K : PySem.W.Frag} {mg : Str → Option Value} {base : Heap} {x qual : Str} {params : Arguments} {body : List Stmt} {scope : Scope} {dvs : List V} {kws : List (Str × V)} {f : Addr} {fd : FuncData} {ps : List Str}
/-- no defaults but of keyword-only parameters; ks: the keywords given, ms: those that lack -/
theorem kbinds0 (F : FunD K x qual params body scope [] kws f fd) (n : Nat) (ks : List Str) (ms : List (Str × V)) (g : {α : Type} → List α → List α → List α → List α) (hk : kws ≠ []) (hms : ∀ q ∈ ms, q ∈ kws)
    (hrel : ∀ {vs mz zs : List V} {us mv ws : List Value}, Vals vs us → Vals mz mv → Vals zs ws → Vals (g vs mz zs) (g us mv ws))
    (h : ∀ (D : Addr) (doc pm : Value) (an : Option Addr) (cdv ct : Value) (us mv ws : List Value), us.length = n → mv.length = ms.length → ws.length = ks.length →
      KwChain D ((ms.map (·.1)).zip mv) (bindArgs (PySem.W.fnOf x qual params body scope .none (.ref D) doc pm an cdv ct) ⟨us, ks.zip ws⟩) (ps.zip (g us mv ws))) :
    ∃ mv : List Value, KBn K fd ps n ks (fun us ws => g us mv ws) (fun vs zs => g vs (ms.map (·.2)) zs) := by
  obtain ⟨oc, od, dV, kV, doc, pm, an, cdv, ct, osl, rfl, lk, hcd, hD, hK⟩ := F.ex
  rcases hD with ⟨_, rfl⟩ | ⟨e, _⟩
  · rcases hK with e | ⟨D, rfl, hq⟩
    · exact absurd e hk
    · obtain ⟨mv, hl, rk, hks⟩ := kwd_vals (ms := ms) fun q hm => hq q (hms q hm)
      refine ⟨mv, ⟨fun s us ws X l1 l2 => ?_, fun r1 r2 => hrel r1 rk r2⟩⟩
      exact BindsTo.of_looks fun M => KwChain.looks X hks (h D doc pm an cdv ct us mv ws l1 hl l2)
  · exact absurd rfl e
theorem kb_n {n : Nat} {ks : List Str} {gU : List Value → List Value → List Value} {gV : List V → List V → List V} {g : List D → List D → List D} (B : KBn K fd ps n ks gU gV)
    (hD : ∀ (H : Hp) (U : List Addr) (vs zs : List V) (ds es : List D), vs.length = n → zs.length = ks.length → DVs K H U vs ds → DVs K H U zs es → DVs K H U (gV vs zs) (g ds es)) : KB K fd ps ks n ks.length g :=
  ⟨gV, gU, fun s us ws X l1 l2 => B.to s us ws X l1 l2, fun vs zs us ws _ _ r1 r2 => B.rel r1 r2, fun H U vs zs ds es l1 l2 d1 d2 => hD H U vs zs ds es l1 l2 d1 d2⟩
/-- an __init__: self goes ahead -/
theorem km_n {n : Nat} {ks : List Str} {gU gU' : List Value → List Value → List Value} {gV gV' : List V → List V → List V} {g : List D → List D → List D} (B : KBn K fd ps (n + 1) ks gU gV)
    (eU : ∀ u us ws, gU (u :: us) ws = u :: gU' us ws) (eV : ∀ v vs zs, gV (v :: vs) zs = v :: gV' vs zs)
    (hD : ∀ (H : Hp) (U : List Addr) (vs zs : List V) (ds es : List D), vs.length = n → zs.length = ks.length → DVs K H U vs ds → DVs K H U zs es → DVs K H U (gV' vs zs) (g ds es)) : KM K fd ps ks n ks.length g :=
  ⟨gV', gU', fun s x us ws X l1 l2 => by rw [← eU]; exact B.to s (.ref x :: us) ws X (by rw [List.length_cons, l1]) l2, fun vs zs us ws _ _ r1 r2 => by
    have := B.rel (vs := .ref 0 :: vs) (us := .ref 0 :: us) (.cons rfl r1) r2
    rw [eU, eV] at this
    cases this with
    | cons _ t => exact t, fun H U vs zs ds es l1 l2 d1 d2 => hD H U vs zs ds es l1 l2 d1 d2⟩
end
end Ab
set_option maxRecDepth 100000
set_option maxHeartbeats 4000000
/-! Ab17: sorted over data; repr of data. -/
namespace Ab
open PySem PySem.Spec L2 PyProof.Rows
abbrev SB := V × D × PyData
section
variable {X : Cx}
theorem eachIs_paired {α β : Type} {R : α → β → Prop} : ∀ {as : List α} {bs : List β}, PySem.W.EachIs R as bs → Paired (fun b a => R a b) bs as
  | _, _, .nil => .nil
  | _, _, .cons h t => .cons h (eachIs_paired t)
theorem paired_eachIs {α β : Type} {R : β → α → Prop} : ∀ {bs : List β} {as : List α}, Paired R bs as → PySem.W.EachIs (fun a b => R b a) as bs
  | _, _, .nil => .nil
  | _, _, .cons h t => .cons h (paired_eachIs t)
theorem vals_paired : ∀ {bs : List SB} {us : List Value}, Vals (bs.map (·.1)) us → Paired (fun b v => RelV b.1 v) bs us
  | [], _, h => by cases h; exact .nil
  | b :: bs, _, h => by
    rw [List.map_cons] at h
    cases h with
    | cons a t => exact .cons a (vals_paired t)
theorem paired_vals : ∀ {bs : List SB} {us : List Value}, Paired (fun b v => RelV b.1 v) bs us → Vals (bs.map (·.1)) us
  | [], _, h => by cases h; exact .nil
  | b :: bs, _, h => by
    cases h with
    | cons a t => exact .cons a (paired_vals t)
theorem call_sortedP (hu : X.A.units + 200 < cLine) : CallR X (.builtin "sorted") (fun xs H Q => ∃ (a : Addr) (bs : List SB), xs = [.ref a] ∧ SqL X.K H a (bs.map (·.1)) ∧ (∀ b ∈ bs, Dp X.K H b.1 b.2.2 ∧ b.2.2.depth ≤ 60) ∧ PySem.W.AllAlike (bs.map (·.2.2)) ∧ PySem.W.Sortable (bs.map (·.2.2)) ∧
    ∀ p, H p = none → Q (.ref p) (upd H p (.lst ((bs.mergeSort (PySem.W.dataLe false (·.2.2))).map (·.1))))) := by
  intro pins s σ H xs us Q I r h
  obtain ⟨a, bs, rfl, hs, hd, hal, hk, q⟩ := h
  obtain ⟨its, rv, hl, hz⟩ := I.list hs
  rw [Vals.ref1 r]
  rw [List.length_map] at hz
  have pv := vals_paired rv
  have reads : ∀ {bs' : List SB} {us' : List Value}, Paired (fun b v => RelV b.1 v) bs' us' → (∀ b ∈ bs', Dp X.K H b.1 b.2.2 ∧ b.2.2.depth ≤ 60) → PySem.W.EachIs (fun v b => ∃ as, Reads s.heap v (b.2.2) as) us' bs' := by
    intro bs' us' p
    induction p with
    | nil => intro _; exact .nil
    | cons h _ ih => intro hd; exact .cons (Dp.reads I _ _ _ (hd _ List.mem_cons_self).1 h) (ih fun b hb => hd b (List.mem_cons_of_mem _ hb))
  refine PySem.W.sorted_data (R := fun v b => RelV b.1 v) (enc := fun b : SB => b.2.2) hl.isList (paired_eachIs pv) (reads pv hd) hal hk hz (fun b hb => by have := (hd b hb).2; omega) fun out ho eo => ?_
  obtain ⟨ep, he'⟩ := PyProof.Rows.sortedAll_at s.heap its out.toArray
  have ev := paired_vals (eachIs_paired eo)
  exact ⟨.ref _, upd H (s.heap.objs.size + 1) (.lst ((bs.mergeSort (PySem.W.dataLe false (·.2.2))).map (·.1))), I.laid (t' := s.toks) (fun _ _ => PyProof.Rows.sortedAll_old) (Nat.le_succ _) ⟨by rw [List.length_map, List.length_mergeSort]; exact hz, out, ep, ev, he'⟩, rfl, q _ (I.hok.fresh (Nat.le_succ _))⟩
/-- the data sorted by what they say -/
def sortD (l : List (D × PyData)) : List D := (l.mergeSort (PySem.W.dataLe false (·.2))).map (·.1)
inductive SortPA : AC
  | mk {x : D} {l : List D} {ps : List PyData} {M : Mem} {P : AK} : LstR M x l → Paired IsPy l ps → (∀ p ∈ ps, p.depth ≤ 60) → PySem.W.AllAlike ps → PySem.W.Sortable ps → P (.lst (sortD (l.zip ps))) M → SortPA [x] M P
theorem dvs_zip {K : PySem.W.Frag} {H : Hp} {U : List Addr} : ∀ {vs : List V} {l : List D} {ps : List PyData}, DVs K H U vs l → Paired IsPy l ps → ∃ bs : List SB, bs.map (·.1) = vs ∧ bs.map (fun b => (b.2.1, b.2.2)) = l.zip ps ∧ bs.map (·.2.2) = ps ∧ ∀ b ∈ bs, DV K H U b.1 b.2.1 ∧ IsPy b.2.1 b.2.2
  | _, _, _, .nil, .nil => ⟨[], rfl, rfl, rfl, fun _ h => nomatch h⟩
  | v :: vs, d :: ds, p :: ps, .cons a t, .cons b u => by
    obtain ⟨bs, e1, e2, e3, e4⟩ := dvs_zip t u
    refine ⟨(v, d, p) :: bs, by rw [List.map_cons, e1], by rw [List.map_cons, e2]; rfl, by rw [List.map_cons, e3], fun c hc => ?_⟩
    rcases List.mem_cons.mp hc with z | z
    · subst z; exact ⟨a, b⟩
    · exact e4 c z
theorem dvs_of {K : PySem.W.Frag} {H : Hp} {U : List Addr} : ∀ {bs : List SB}, (∀ b ∈ bs, DV K H U b.1 b.2.1) → DVs K H U (bs.map (·.1)) (bs.map (·.2.1))
  | [], _ => .nil
  | b :: bs, h => .cons (h b List.mem_cons_self) (dvs_of fun c hc => h c (List.mem_cons_of_mem _ hc))
theorem okc_sortP (hu : X.A.units + 200 < cLine) : OkC X (.builtin "sorted") SortPA := fun F ds vs M P H Q m dv h hP => by
  cases h with
  | @mk x l ps _ _ hs hp hd hal hk q =>
    cases dv with
    | cons d1 d2 =>
      cases d2
      obtain ⟨a, xs, rfl, e, t⟩ := hs.inv m d1
      obtain ⟨bs, e1, e2, e3, e4⟩ := dvs_zip t hp
      subst e1
      refine ⟨_, call_sortedP hu, a, bs, rfl, e, fun b hb => ⟨(e4 b hb).2.dp (e4 b hb).1, hd _ (by rw [← e3]; exact List.mem_map_of_mem (f := fun b : SB => b.2.2) hb)⟩, by rw [e3]; exact hal, by rw [e3]; exact hk, fun p hpn => ?_⟩
      have es : sortD (l.zip ps) = (bs.mergeSort (PySem.W.dataLe false (·.2.2))).map (·.2.1) := by
        unfold sortD
        rw [← e2]
        have := List.map_mergeSort (r := PySem.W.dataLe false (fun b : SB => b.2.2)) (s := PySem.W.dataLe false (fun b : D × PyData => b.2)) (f := fun b : SB => (b.2.1, b.2.2)) (l := bs) (fun _ _ _ _ => rfl)
        rw [← this, List.map_map]
        rfl
      have dvs := dvs_of (bs := bs.mergeSort (PySem.W.dataLe false (·.2.2))) (K := X.K) (H := H) (U := um F M) fun b hb => (e4 b ((List.mergeSort_perm _ _).mem_iff.mp hb)).1
      rw [← es] at dvs
      obtain ⟨s1, m1, dl⟩ := new_lst m hpn dvs
      exact hP _ _ M _ s1 m1 dl q
/-- .. the new list in memory -/
inductive SortPMA : AC
  | mk {x : D} {l : List D} {ps : List PyData} {M : Mem} {P : AK} : LstR M x l → Paired IsPy l ps → (∀ p ∈ ps, p.depth ≤ 60) → PySem.W.AllAlike ps → PySem.W.Sortable ps → (∀ q, q ∉ dom M → P (.ref q) (M ++ [(q, .lst (sortD (l.zip ps)))])) → SortPMA [x] M P
theorem okc_sortPM (hu : X.A.units + 200 < cLine) : OkC X (.builtin "sorted") SortPMA := fun F ds vs M P H Q m dv h hP => by
  cases h with
  | @mk x l ps _ _ hs hp hd hal hk q =>
    cases dv with
    | cons d1 d2 =>
      cases d2
      obtain ⟨a, xs, rfl, e, t⟩ := hs.inv m d1
      obtain ⟨bs, e1, e2, e3, e4⟩ := dvs_zip t hp
      subst e1
      refine ⟨_, call_sortedP hu, a, bs, rfl, e, fun b hb => ⟨(e4 b hb).2.dp (e4 b hb).1, hd _ (by rw [← e3]; exact List.mem_map_of_mem (f := fun b : SB => b.2.2) hb)⟩, by rw [e3]; exact hal, by rw [e3]; exact hk, fun p hpn => ?_⟩
      have es : sortD (l.zip ps) = (bs.mergeSort (PySem.W.dataLe false (·.2.2))).map (·.2.1) := by
        unfold sortD
        rw [← e2]
        have := List.map_mergeSort (r := PySem.W.dataLe false (fun b : SB => b.2.2)) (s := PySem.W.dataLe false (fun b : D × PyData => b.2)) (f := fun b : SB => (b.2.1, b.2.2)) (l := bs) (fun _ _ _ _ => rfl)
        rw [← this, List.map_map]
        rfl
      have dvs := dvs_of (bs := bs.mergeSort (PySem.W.dataLe false (·.2.2))) (K := X.K) (H := H) (U := um F M) fun b hb => (e4 b ((List.mergeSort_perm _ _).mem_iff.mp hb)).1
      rw [← es] at dvs
      obtain ⟨s1, m1, n1⟩ := new_mut m hpn dvs
      exact hP _ _ _ _ s1 m1 (.ref p) (q p n1)
end
end Ab
set_option maxRecDepth 100000
set_option maxHeartbeats 4000000
/-! Ab18: loops and comprehensions over a list in memory: the turns must leave it as it is (C). -/
namespace Ab
open PySem L2 PyProof.Rows
section
variable {X : Cx} {pos : Pos}
def ItOkC (X : Cx) (J : It) (xs : List D) (H : Hp) (F : List Addr) (M : Mem) (C : Mem → Prop) : Prop := ∀ F' H' M', StepX F H M H' M' → FrGo H F F' → MSt X.K H' F' M' → C M' →
  (∀ i d, xs[i]? = some d → J.go i H' ∧ ∀ x H2, J.yld i H' x H2 → Step H' M' H2 M' ∧ MSt X.K H2 F' M' ∧ DV X.K H2 (um F' M') x d) ∧ J.stop xs.length H'
abbrev AIC := Rho → Mem → (List D → (Mem → Prop) → Mem → Prop) → XKA → Prop
structure DenIC (X : Cx) (tg iter : Expr) (ai : AIC) : Prop where
  run : ∀ (F : List Addr) (ρ : Rho) (M : Mem) (P : List D → (Mem → Prop) → Mem → Prop) (EX : XKA) (W : WX) (σ : L2.St) (H : Hp) (R : It → Hp → Prop), Sta X H F M σ ρ → Takes X W → ai ρ M P EX →
    (∀ J xs C M' H', Step H M H' M' → MSt X.K H' F M' → ItOkC X J xs H' F M' C → P xs C M' → R J H') → LX X H F M EX (fun cls d H' => W cls d σ H') → IW X tg iter σ H R
/-- the list at a in memory -/
def iMemA (te : AE) : AIC := fun ρ M P EX => te ρ M (fun d M1 => ∃ a l, d = .ref a ∧ (a, MO.lst l) ∈ M1 ∧ P l (fun M' => (a, MO.lst l) ∈ M') M1) EX
/-- a bare iterator, no condition -/
def LoopC (g : AG) (body : AS) (k : KE) (xs : List D) (C : Mem → Prop) (ρ : Rho) (M : Mem) : Prop := ∃ J : Nat → Rho → Mem → Prop, J 0 ρ M ∧ (∀ i ρ' M', J i ρ' M' → C M') ∧
  (∀ i d ρ' M', xs[i]? = some d → J i ρ' M' → g d ρ' M' (fun ρ1 M1 => body ρ1 M1 { k with nx := J (i + 1), ct := J (i + 1), bk := k.nx })) ∧ ∀ ρ' M', J xs.length ρ' M' → k.nx ρ' M'
def aForC (ai : AIC) (g : AG) (body : AS) : AS := fun ρ M k => ai ρ M (fun xs C M1 => LoopC g body k xs C ρ M1) (fun x M' => k.ex x ρ M')
theorem ds_forC {tg iter : Expr} {body : List Stmt} {ai : AIC} {g : AG} {tb : AS} {vs : List Nat} (hp : PassesOwn (model X.prog X.w) X.A X.env X.xe) (hc : X.calm = true) (hi : DenIC X tg iter ai) (hg : DenG X tg vs g) (hb : DenB X body tb)
    (hs : ∀ x, foldedSetIterable iter X.env x = pure x := by intro _; rfl) : DenS X (.For tg iter body [] pos) (aForC ai g tb) :=
  ⟨fun F ρ M k W σ H D S tk h L => fun pins s I => by
    refine (ps_for hp hc (pi_iw (X := X)) (pg_gt (X := X)) (pss_bw (X := X)) hs).run pins s σ H D I ?_
    refine hi.run F ρ M _ _ W σ H _ S tk h (fun J xs C M1 H1 s1 m1 io hL => ?_) (L.lx S)
    obtain ⟨Jv, h0, hC, hstep, hd⟩ := hL
    refine ⟨fun i m σ' H' => m + i = xs.length ∧ ∃ ρ' M', Step H1 M1 H' M' ∧ Sta X H' F M' σ' ρ' ∧ Jv i ρ' M', ⟨xs.length, Nat.add_zero _, ρ, M1, Step.refl _ _, S.step s1 m1, h0⟩, ?_⟩
    rintro i m σ' H' ⟨hm, ρ', M', s', S', hj⟩
    obtain ⟨ho, hstop⟩ := io F H' M' s'.toX FrGo.refl S'.ms (hC i ρ' M' hj)
    by_cases hi' : i = xs.length
    · subst hi'
      exact Or.inl ⟨hstop, L.nx ρ' M' σ' H' (s1.trans s') S' (hd ρ' M' hj)⟩
    · have hlt : i < xs.length := by omega
      obtain ⟨d, hd'⟩ : ∃ d, xs[i]? = some d := ⟨_, List.getElem?_eq_getElem hlt⟩
      obtain ⟨hgo, hy⟩ := ho i d hd'
      refine Or.inr ⟨hgo, fun σ2 H2 => ∃ ρ2 M2, Step H1 M1 H2 M2 ∧ Sta X H2 F M2 σ2 ρ2 ∧ Jv (i + 1) ρ2 M2, fun σ2 H2 q => ⟨m - 1, by omega, by omega, q⟩, fun x H2 hyl => ?_⟩
      obtain ⟨s2, m2, dx⟩ := hy x H2 hyl
      refine hg.run F x d ρ' M' _ W σ' H2 _ (S'.step s2 m2) dx tk (hstep i d ρ' M' hd' hj) fun ρ3 M3 σ3 H3 s3 S3 _ q3 => ?_
      have l3 := ((s1.trans s').trans s2).trans s3
      refine hb.run F ρ3 M3 _ W σ3 H3 _ S3 tk q3 ⟨fun ρ4 M4 σ4 H4 s4 S4 q4 => ⟨ρ4, M4, ((s'.trans s2).trans s3).trans s4, S4, q4⟩, fun v d' M4 H4 s4 m4 dv q4 => L.rt v d' M4 H4 (l3.trans s4) m4 dv q4,
        fun ρ4 M4 σ4 H4 s4 S4 q4 => L.nx ρ4 M4 σ4 H4 (l3.trans s4) S4 q4, fun ρ4 M4 σ4 H4 s4 S4 q4 => ⟨ρ4, M4, ((s'.trans s2).trans s3).trans s4, S4, q4⟩, fun x' ρ4 M4 cls dd σ4 H4 s4 S4 xv q4 => L.ex x' ρ4 M4 cls dd σ4 H4 (l3.trans s4) S4 xv q4⟩⟩

def LcC (vs : List Nat) (g : AG) (tt : AT) (te : AE) (xs : List D) (C : Mem → Prop) (ρ : Rho) (M : Mem) (P : List D → Mem → Prop) : Prop := ∃ J : Nat → List D → Mem → Prop, J 0 [] M ∧ (∀ i acc M', J i acc M' → C M') ∧
  (∀ i d acc M', xs[i]? = some d → J i acc M' → g d (wipeA ρ vs) M' (fun ρ2 M2 => tt ρ2 M2 (fun b M3 => (b = true → te ρ2 M3 (fun y M4 => acc.length < 100000 ∧ J (i + 1) (acc ++ [y]) M4) noX) ∧ (b = false → J (i + 1) acc M3)) noX)) ∧
  ∀ acc M', J xs.length acc M' → P acc M'
def aLcC (vs : List Nat) (ai : AIC) (g : AG) (tt : AT) (te : AE) (R : List D → Mem → AK → Prop) : AE := fun ρ M P EX => ai ρ M (fun xs C M1 => LcC vs g tt te xs C ρ M1 (fun acc M2 => R acc M2 P)) EX
theorem lcC_ok {elt tg iter : Expr} {ifs : List Expr} {scope : Scope} {vs ws : List Nat} {ai : AIC} {g : AG} {tt : AT} {te : AE} (b : Bool) {F : List Addr} {ρ : Rho} {M : Mem} {P : AK} {EX : XKA} {W : WX} {σ : L2.St} {H : Hp} {Q : VK}
    (hi : DenIC X tg iter ai) (hg : Blk X scope fun X' => DenG X' tg ws g) (hw : ∀ i ∈ ws, i ∈ vs) (ht : Blk X scope fun X' => DenTs X' ifs tt) (he : Blk X scope fun X' => DenE X' elt te) (S : Sta X H F M σ ρ) (tk : Takes X W)
    (h : aLcC vs ai g tt te (if b = true then rMut else rFro) ρ M P EX) (hP : ∀ v d M' H', Step H M H' M' → MSt X.K H' F M' → DV X.K H' (um F M') v d → P d M' → Q v H') (hX : LX X H F M EX (fun cls d H' => W cls d σ H')) :
    tLc (IW X tg iter) (fun v σ H Q => ∀ (s : Shared) (H' : Hp) (C : Addr) (cl : List (Str × Addr)) (fp : List Addr), GT (X.blk s H' scope (compEnvC scope cl C X.env) fp) tg v σ H Q)
      (fun σ H Q => ∀ (s : Shared) (H' : Hp) (C : Addr) (cl : List (Str × Addr)) (fp : List Addr) (pins : List (Addr × Obj)) (t : Shared), Inv (X.blk s H' scope (compEnvC scope cl C X.env) fp) pins σ H t →
        wpAny (model X.prog X.w) X.A (forIn ifs true fun c r => if r = true then do let ok ← isTrue c (compEnvC scope cl C X.env) (eval c (compEnvC scope cl C X.env)); pure (ForInStep.yield ok) else pure (ForInStep.yield r)) (TP (X.blk s H' scope (compEnvC scope cl C X.env) fp) pins σ Q) (fun _ _ => False) t)
      (fun σ H Q => ∀ (s : Shared) (H' : Hp) (C : Addr) (cl : List (Str × Addr)) (fp : List Addr), EW (X.blk s H' scope (compEnvC scope cl C X.env) fp) elt σ H Q) vs σ H Q := by
  refine hi.run F ρ M _ EX W σ H _ S tk h (fun J xs C M1 H1 s1 m1 io hL => ?_) hX
  intro D0 hD
  obtain ⟨Jv, h0, hC, hstep, hd⟩ := hL
  have nD := m1.notin hD
  have st0 : Step H1 M1 (upd H1 D0 (.lst [])) M1 := step_new hD
  have mD : MSt X.K (upd H1 D0 (.lst [])) (D0 :: F) M1 := by
    have m := mst_new (o := .lst []) m1 hD
    exact ⟨m.nd, fun q hq => by
      obtain ⟨u, e⟩ := (m1.ok q hq).there
      have z := (m1.ok q hq)
      have key : ∀ {o : MO}, MoOk X.K H1 (um F M1) q.1 o → MoOk X.K (upd H1 D0 (.lst [])) (um (D0 :: F) M1) q.1 o := fun {o} z => by
        have f2 : FrGo H1 F (D0 :: F) := fun b hb => (List.mem_cons.mp hb).elim (fun y => Or.inr (by rw [y]; exact hD)) Or.inl
        have ne : upd H1 D0 (.lst []) q.1 = H1 q.1 := upd_ne (ne_of_none e hD)
        cases o with
        | lst ds => obtain ⟨a, b1, b2⟩ := z; exact ⟨a, ne.trans b1, b2.step2 st0 f2⟩
        | ins C fs => obtain ⟨a, b, b1, b2⟩ := z; exact ⟨a, b, ne.trans b1, b2.step2 st0 f2⟩
        | dK kvs => obtain ⟨a, b1, b2⟩ := z; exact ⟨a, ne.trans b1, b2.step2 st0 f2⟩
        | any o => exact ne.trans z
      exact key z, fun b hb => by
      rcases List.mem_cons.mp hb with y | y
      · rw [y]; exact ⟨fun z => nD (List.mem_append_left _ z), _, upd_same⟩
      · exact m.fr b y⟩
  have f2 : FrGo H1 F (D0 :: F) := fun b hb => (List.mem_cons.mp hb).elim (fun y => Or.inr (by rw [y]; exact hD)) Or.inl
  -- the invariant of the turns
  let Wv : Nat → Hp → Prop := fun i H' => ∃ acc as M', Step H1 M1 H' M' ∧ MSt X.K H' (D0 :: F) M' ∧ H' D0 = some (.lst as) ∧ DVs X.K H' (um (D0 :: F) M') as acc ∧ Jv i acc M'
  refine ⟨fun i m H' => m + i = xs.length ∧ Wv i H', ⟨xs.length, Nat.add_zero _, [], [], M1, st0, mD, upd_same, .nil, h0⟩, ?_⟩
  rintro i m H' ⟨hm, acc, as, M', s', m', hD', dvs, hj⟩
  obtain ⟨ho, hstop⟩ := io (D0 :: F) H' M' s'.toX f2 m' (hC i acc M' hj)
  by_cases hi' : i = xs.length
  · subst hi'
    left
    refine ⟨hstop, ?_⟩
    have mF : MSt X.K H' F M' := m'.less fun b hb => List.mem_cons_of_mem _ hb
    have nD' : D0 ∉ dom M' := (m'.fr D0 List.mem_cons_self).1
    have nF : D0 ∉ F := fun z => nD (List.mem_append_right _ z)
    have hq := hd acc M' hj
    cases b with
    | false =>
      have hq' : P (.lst acc) M' := hq
      refine hP _ _ M' H' (s1.trans s') mF (.lst hD' (fun z => (List.mem_append.mp z).elim nD' nF) (dvs.anti fun a ha => (List.mem_append.mp ha).elim (fun z => List.mem_append_left _ z) fun z => List.mem_append_right _ (List.mem_cons_of_mem _ z))) hq'
    | true =>
      have hq' : ∀ q, q ∉ dom M' → P (.ref q) (M' ++ [(q, .lst acc)]) := hq
      have sp : Split (M' ++ [(D0, MO.lst acc)]) M' [(D0, MO.lst acc)] := List.Perm.refl _
      have sub : ∀ a ∈ um F (M' ++ [(D0, MO.lst acc)]), a ∈ um (D0 :: F) M' := fun a ha => by
        rw [um, dom_app] at ha
        simp only [List.mem_append, List.mem_singleton] at ha
        rcases ha with (z | z) | z
        · exact List.mem_append_left _ z
        · exact List.mem_append_right _ (by rw [z]; exact List.mem_cons_self)
        · exact List.mem_append_right _ (List.mem_cons_of_mem _ z)
      have mm : MSt X.K H' F (M' ++ [(D0, MO.lst acc)]) := by
        refine ⟨?_, fun q hq => ?_, fun b hb => ⟨?_, (mF.fr b hb).2⟩⟩
        · rw [dom_app]
          refine List.nodup_append.mpr ⟨mF.nd, by simp, fun a ha b hb => ?_⟩
          rw [List.mem_singleton.mp hb]
          rintro rfl
          exact nD' ha
        · rcases List.mem_append.mp hq with z | z
          · exact (m'.ok q z).anti sub
          · rw [List.mem_singleton.mp z]
            exact ⟨as, hD', dvs.anti sub⟩
        · rw [dom_app]
          intro z
          rcases List.mem_append.mp z with z | z
          · exact (mF.fr b hb).1 z
          · rw [List.mem_singleton.mp z] at hb; exact nF hb
      refine hP _ _ (M' ++ [(D0, MO.lst acc)]) H' ⟨(s1.trans s').keep, fun b hb => ?_⟩ mm (.ref D0) (hq' D0 nD')
      rw [dom_app] at hb
      rcases List.mem_append.mp hb with z | z
      · exact (s1.trans s').new b z
      · rw [List.mem_singleton.mp z]
        cases e : H D0 with
        | none => exact Or.inr rfl
        | some u =>
          by_cases hdm : D0 ∈ dom M
          · exact Or.inl hdm
          · have := s1.keep D0 u hdm e
            rw [hD] at this; cases this
  · right
    have hlt : i < xs.length := by omega
    obtain ⟨d, hd'⟩ : ∃ d, xs[i]? = some d := ⟨_, List.getElem?_eq_getElem hlt⟩
    obtain ⟨hgo, hy⟩ := ho i d hd'
    refine ⟨hgo, Wv (i + 1), fun H2 q => ⟨m - 1, by omega, by omega, q⟩, fun x H2 hyl => ?_⟩
    obtain ⟨s2, m2, dx⟩ := hy x H2 hyl
    have keepD : ∀ {Ha Hb : Hp} {Ma Mb : Mem} {as : List V}, Step Ha Ma Hb Mb → MSt X.K Ha (D0 :: F) Ma → Ha D0 = some (.lst as) → Hb D0 = some (.lst as) := fun st mm e => st.keep D0 _ (mm.fr D0 List.mem_cons_self).1 e
    have sl2 : SlOk X.K H2 (um (D0 :: F) M') (L2.wipe σ vs) (wipeA ρ vs) := by
      have z : SlOk X.K H1 (um F M1) σ ρ := (S.step s1 m1).sl
      have z2 : SlOk X.K H2 (um (D0 :: F) M') σ ρ := ⟨z.len, fun i d e => let ⟨v, e1, e2⟩ := z.at_ i d e; ⟨v, e1, e2.step2 (s'.trans s2) f2⟩⟩
      exact z2.wipe vs
    intro s_ H_ C_ cl_ fp_
    refine (hg s_ H_ C_ cl_ fp_).run (D0 :: F) x d _ M' _ (fun _ _ _ _ => False) _ H2 _ ⟨sl2, m2⟩ dx takes_no (hstep i d acc M' hd' hj) fun ρ3 M3 σ3 H3 s3 S3 oe q3 => ?_
    refine ⟨wipe_eq oe hw, fun s_ H_ C_ cl_ fp_ pins t J' => ?_⟩
    refine (ht s_ H_ C_ cl_ fp_).run (D0 :: F) ρ3 M3 _ noX (fun _ _ _ _ => False) σ3 H3 _ ⟨S3.sl, S3.ms⟩ takes_no q3 (fun bb M4 H4 s4 m4 q4 => ?_) lx_no pins t J'
    have dv4 := (((dvs.step s2).step s3).step s4)
    have hD4 := keepD s4 S3.ms (keepD s3 m2 (keepD s2 m' hD'))
    cases bb with
    | false =>
      show Wv (i + 1) H4
      exact ⟨acc, as, M4, ((s'.trans s2).trans s3).trans s4, m4, hD4, dv4, q4.2 rfl⟩
    | true =>
      rw [if_pos rfl]
      intro s_ H_ C_ cl_ fp_
      refine (he s_ H_ C_ cl_ fp_).run (D0 :: F) ρ3 M4 _ noX (fun _ _ _ _ => False) σ3 H4 _ ⟨S3.sl.step s4, m4⟩ takes_no (q4.1 rfl) (fun y yd M5 H5 s5 m5 dy q5 => ?_) lx_no
      have hD5 := keepD s5 m4 hD4
      refine ⟨as, hD5, by rw [dvs.length]; exact Nat.lt_of_lt_of_le q5.1 (by decide), acc ++ [yd], as ++ [y], M5, ?_, ?_, upd_same, ?_, q5.2⟩
      · refine ⟨fun b u hb e => ?_, fun b hb => ((((s'.trans s2).trans s3).trans s4).trans s5).new b hb⟩
        rw [upd_ne (ne_of_none e hD)]
        exact ((((s'.trans s2).trans s3).trans s4).trans s5).keep b u hb e
      · refine ⟨m5.nd, fun q hq => ?_, fun b hb => ⟨(m5.fr b hb).1, ?_⟩⟩
        · have nq : q.1 ≠ D0 := fun z => (m5.fr D0 List.mem_cons_self).1 (by rw [← z]; exact List.mem_map_of_mem (f := (·.1)) hq)
          exact MoOk.frz (List.mem_append_right _ List.mem_cons_self) nq (m5.ok q hq)
        · by_cases e : b = D0
          · rw [e]; exact ⟨_, upd_same⟩
          · rw [upd_ne e]; exact (m5.fr b hb).2
      · exact DVs.frz (List.mem_append_right _ List.mem_cons_self) ((dv4.step s5).append (DVs.one dy))
/-- [elt for tg in iter if ..] -/
theorem de_lcC {elt tg iter : Expr} {ifs : List Expr} {scope : Scope} {own : List (Str × Nat)} {ws : List Nat} {pos : Pos} {ai : AIC} {g : AG} {tt : AT} {te : AE} (b : Bool) (own_ : own = own) (hc : X.calm = true) (hN : X.N.Nodup) (ok : BlkOk X.N X.env.scope scope own)
    (hi : DenIC X tg iter ai) (hg : Blk X scope fun X' => DenG X' tg ws g) (ht : Blk X scope fun X' => DenTs X' ifs tt) (he : Blk X scope fun X' => DenE X' elt te) (hw : ∀ i ∈ ws, i ∈ own.map (·.2) := by decide) (hs : ∀ x, foldedSetIterable iter X.env x = pure x := by intro _; rfl) :
    DenE X (.ListComp elt [⟨tg, iter, ifs, 0⟩] scope pos) (aLcC (own.map (·.2)) ai g tt te (if b = true then rMut else rFro)) :=
  ⟨fun F ρ M P EX W σ H Q S tk h hP hX => PE.ew (pe_lc (own := own) hc hN (pi_iw (X := X)) ok (fun s H C cl fp => ⟨fun pins s σ H v u Q I r h => h _ _ _ _ _ pins s u I r⟩) (fun s H C cl fp => ⟨fun pins s σ H Q I h => h _ _ _ _ _ pins s I⟩) (fun s H C cl fp => ⟨fun pins s σ H Q I h => h _ _ _ _ _ pins s I⟩) hs)
    (lcC_ok b hi hg hw ht he S tk h hP hX)⟩
/-- y = [elt for tg in iter if ..] -/
theorem ds_setLcC {elt tg iter : Expr} {ifs : List Expr} {scope : Scope} {own : List (Str × Nat)} {ws : List Nat} {pos spos py : Pos} {ai : AIC} {g : AG} {tt : AT} {te : AE} (b : Bool) (i : Nat) {y : Str} (own_ : own = own) (hc : X.calm = true) (hN : X.N.Nodup) (ok : BlkOk X.N X.env.scope scope own)
    (hi : DenIC X tg iter ai) (hg : Blk X scope fun X' => DenG X' tg ws g) (ht : Blk X scope fun X' => DenTs X' ifs tt) (he : Blk X scope fun X' => DenE X' elt te)
    (hsw : swapsWith (.ListComp elt [⟨tg, iter, ifs, 0⟩] scope pos) (some (.Name y py)) spos.line X.env = pure true) (hy : X.N[i]? = some y := by rfl) (hyl : X.env.scope.names.lookup y = some .local := by rfl) (hw : ∀ i ∈ ws, i ∈ own.map (·.2) := by decide) (hs : ∀ x, foldedSetIterable iter X.env x = pure x := by intro _; rfl) :
    DenS X (.Assign [.Name y py] (.ListComp elt [⟨tg, iter, ifs, 0⟩] scope pos) spos) (aAsg (aLcC (own.map (·.2)) ai g tt te (if b = true then rMut else rFro)) (gNameA i)) :=
  ⟨fun F ρ M k W σ H D S tk h L => fun pins s I => (ps_setLc (own := own) hc hN hy hyl hsw (pi_iw (X := X)) ok (fun s H C cl fp => ⟨fun pins s σ H v u Q I r h => h _ _ _ _ _ pins s u I r⟩) (fun s H C cl fp => ⟨fun pins s σ H Q I h => h _ _ _ _ _ pins s I⟩) (fun s H C cl fp => ⟨fun pins s σ H Q I h => h _ _ _ _ _ pins s I⟩) hs).run pins s σ H D I
    (lcC_ok b hi hg hw ht he S tk h (fun v d M' H' s m dv q => L.nx _ M' _ H' s ⟨by rw [sS_set]; exact (S.sl.step s).set dv i, m⟩ q) (L.lx S))⟩
theorem di_mem {tg l : Expr} {tl : AE} (hl : DenE X l tl) : DenIC X tg l (iMemA tl) :=
  ⟨fun F ρ M P EX W σ H R S tk h hP hX => fun pins s I => (pi_list (pe_ew (X := X))).run pins s σ H R I
    (hl.run F ρ M _ EX W σ H _ S tk h (fun v d M1 H1 s1 m1 dv q => by
      obtain ⟨a, ds, rfl, hm, q⟩ := q
      cases dv
      obtain ⟨ys, e1, e2⟩ := m1.ok _ hm
      refine ⟨_, rfl, ⟨_, SqL.of e1⟩, hP _ ds _ M1 H1 s1 m1 (fun F' H' M' s' f' m' hc => ?_) q⟩
      obtain ⟨xs, h1, h2⟩ := m'.ok _ hc
      have h1 := SqL.of (K := X.K) h1
      refine ⟨fun i d e => ?_, ⟨xs, h1, Nat.le_of_eq h2.length⟩⟩
      obtain ⟨x, ex, dx⟩ := h2.get e
      refine ⟨⟨xs, x, h1, ex⟩, fun y H2 q => ?_⟩
      obtain ⟨rfl, q⟩ := q
      have := q xs h1
      rw [ex] at this; cases this
      exact ⟨Step.refl _ _, m', dx⟩) hX)⟩
end
end Ab
set_option maxRecDepth 100000
set_option maxHeartbeats 4000000
/-! Ab19: a def told of one place of call (the law's own), so that what is under way is known. -/
namespace L2
open PySem PySem.Spec PyProof.Rows
/-- FnOk, of the calls from A alone -/
structure FnAt (P : Program) (w : World) (K : PySem.W.Frag) (mg : Str → Option Value) (base : Heap) (CX : CXT) (k : Nat) (A : Around) (f : Addr) (fd : FuncData) (ps : List Str) (sp : Sp) : Prop where
  len : ∀ vs H Q E, sp vs H Q E → vs.length = ps.length
  run : ∀ (outer : List Env) (s : Shared) (H : Hp) (args : Args) (us : List Value) (vs : List V) (Q : VK) (E : XK), Room k A → Env0 P w K mg base A outer s H → BindsTo s fd args (ps.zip us) → Vals vs us → sp vs H Q E →
    codeAny (model P w) A (.call (.ref f) args) (CR CX outer P w H s Q E) s
theorem fn_at {CX : CXT} {P : Program} {w : World} {K : PySem.W.Frag} {mg : Str → Option Value} {base : Heap} {k : Nat} {f : Addr} {name qual : Str} {params : Arguments} {body : List Stmt} {scope : Scope} {dV kV doc pm cdv ct oc : Value} {an od : Option Addr}
    {osl : Array (Option Value)} {N ps : List Str} {sp : Sp} (lk : K.lookup f = some ⟨oc, od, .func (PySem.W.fnOf name qual params body scope dV kV doc pm an cdv ct), osl⟩) (hcd : PySem.W.codeIn K cdv qual = true) (S : FnScope N ps scope)
    (len : ∀ vs H Q E, sp vs H Q E → vs.length = ps.length)
    (A : Around) (hbody : ∀ (outer : List Env) (s : Shared) (H : Hp) (vs : List V) (Q : VK) (E : XK), Room k (A.deeper (envOfC qual scope s.heap.objs.size f cdv)) → sp vs H Q E →
      ∃ t, PSs (cxOf CX P w K mg base N qual scope f cdv A outer s H E) body t ∧ t { nx := fun _ H' => Q .non H', rt := Q } (start N vs) H) :
    FnAt P w K mg base CX (k + 1) A f (PySem.W.fnOf name qual params body scope dV kV doc pm an cdv ct) ps sp := by
  refine ⟨len, fun outer s H args us vs Q E hr e0 hb r hsp => ?_⟩
  have hl := len _ _ _ _ hsp
  have KX : K.In s.heap := e0.mod.kin.keeps fun b o e => (e0.bs b o e).1
  have lim : s.heap.NoLimit := e0.mod.nolimit.keeps fun b o e => (e0.bs b o e).1
  have hkind : ∀ y ∈ ps.zip us, scope.names.lookup y.1 = some .local ∨ (scope.names.lookup y.1 = some .cell ∧ ((cellsFrom (s.heap.objs.size + 1) scope.names []).lookup y.1).isSome = true) := fun ⟨n, v⟩ hy => by
    rcases S.par n (List.of_mem_zip hy).1 with q | q
    · exact .inl q
    · exact .inr ⟨q, PySem.W.cellsFrom_some _ _ _ (.inl q)⟩
  refine codeAny_call_function hr.depth (KX _ _ lk) rfl S.co S.gen rfl (PySem.W.codeRec_of KX hcd) (hb _ _ _ _ ?_)
  refine wpAny_newFunctionEnv_cells S.kind hkind fun env he s1 x => ?_
  subst he
  refine ⟨lim.keeps x.toInCall.keep, codeAny_func ?_⟩
  obtain ⟨t, ht, hq⟩ := hbody outer s H vs Q E (hr.deeper _) hsp
  have I : Inv (cxOf CX P w K mg base N qual scope f cdv A outer s H E) [] (start N vs) H s1 := inv_start S hr.hd e0 hl r x
  refine wpAny_mono (ht.run [] s1 (start N vs) H _ I hq) (fun fl s' hs => ?_) fun e s' hs => hs
  have fin : ∀ {σ' : St} {H' : Hp} {v : V} {u : Value}, Inv (cxOf CX P w K mg base N qual scope f cdv A outer s H E) [] σ' H' s' → RelV v u → Q v H' → CE outer P w H s Q u s' :=
    fun {σ' H' v u} J rv q => ⟨v, H', J.os, J.bare, J.base, J.hok, rv, q⟩
  cases fl with
  | ret u =>
    obtain ⟨v, σ', H', J, rv, q⟩ := hs
    exact fin J rv q
  | next =>
    obtain ⟨σ', H', J, q⟩ := hs
    exact fin (v := V.non) (u := Value.none) J rfl q
  | brk =>
    obtain ⟨_, _, _, q⟩ := hs
    exact False.elim q
  | cont =>
    obtain ⟨_, _, _, q⟩ := hs
    exact False.elim q
theorem law_callG {P : Program} {w : World} {K : PySem.W.Frag} {mg mb : Str → Option Value} {CX : CXT} {k : Nat} {fa a : Addr} {fd : FuncData} {x : Str} {sp : Sp} {s₁ : Shared} {vs : List Value} {ns : List Int}
    (KX : K.In s₁.heap) (hns : s₁.heap.Ns mainGlobals mg) (hb : s₁.heap.Ns builtinsNs mb) (hbb : ∀ x : Str, x ≠ "__name__" → mb x = bootBuiltins x) (hlim : s₁.heap.NoLimit) (hg : s₁.gens = #[])
    (ha : s₁.heap.get? a = some { cls := .type "list", data := .seq vs.toArray }) (hi : IntsAre vs ns) (hl : ns.length ≤ sizeLine) (hr : Room k callerA)
    (F : ∀ base : Heap, K.In base → base.Ns mainGlobals mg → FnAt P w K mg base CX k callerA fa fd [x] sp) (hbind : ∀ (s : Shared) (u : Value), BindsTo s fd ⟨[u], []⟩ [(x, u)])
    (hsp : ∀ H : Hp, Only H → SqL K H a (ns.map V.int) → sp [.ref a] H (fun v _ => v = .bl true) fun _ _ _ => False)
    (hCX : ∀ H e s', CX [] H s₁ (fun _ _ _ => False) e s' → False) :
    codeAny (model P w) callerA (.call (.ref fa) ⟨[.ref a], []⟩) (fun r s' => r = .ok (.ret (.bool true)) ∧ OldK s₁.heap s'.heap ∧ s'.os = s₁.os ∧ AllBare s'.gens) s₁ := by
  have rv := vals_ints hi
  have lenV := hi.length
  -- from an abstract heap in which nothing but the script may be tracked
  have core : ∀ H : Hp, Only H → SqL K H a (ns.map V.int) → HOk P w H s₁.heap → (∀ b, H b ≠ none → b = a) → (H a ≠ none → K.lookup a = none) →
      codeAny (model P w) callerA (.call (.ref fa) ⟨[.ref a], []⟩) (fun r s' => r = .ok (.ret (.bool true)) ∧ OldK s₁.heap s'.heap ∧ s'.os = s₁.os ∧ AllBare s'.gens) s₁ := by
    intro H hO hS hok hA hK
    have base_of : ∀ {b : Addr} {o : Obj}, s₁.heap.get? b = some o → H b = none → (hidT s₁.heap H).get? b = some o := fun e n => hidT_get e n
    have noA : ∀ {b : Addr} {o : Obj} {es : Array DictEntry} {ep : Nat}, s₁.heap.get? b = some o → o.data = .dict es ep → H b = none := fun {b o es ep} e d => by
      cases q : H b with
      | none => rfl
      | some u =>
        have e' : b = a := hA b (by rw [q]; simp)
        subst e'
        rw [ha] at e; cases e
        have d' : Data.seq vs.toArray _ = Data.dict es ep := d
        cases d'
    have nsK : ∀ {b : Addr} {m : Str → Option Value}, s₁.heap.Ns b m → (hidT s₁.heap H).Ns b m := fun {b m} ⟨o, es, ep, e, d, r⟩ => ⟨o, es, ep, base_of e (noA e d), d, r⟩
    have hKb : K.In (hidT s₁.heap H) := fun b o e => base_of (KX b o e) (by
      cases q : H b with
      | none => rfl
      | some u =>
        have e' : b = a := hA b (by rw [q]; simp)
        subst e'
        rw [hK (by rw [q]; simp)] at e; cases e)
    have hM : Mod K mg (hidT s₁.heap H) := ⟨hKb, nsK hns, ⟨mb, nsK hb, hbb⟩, let ⟨mc, h1, h2⟩ := hlim; ⟨mc, nsK h1, h2⟩⟩
    have e0 : Env0 P w K mg (hidT s₁.heap H) callerA [] s₁ H := ⟨rfl, hM, fun b o e => of_hidT e, Nat.le_of_eq (hidT_size _ _), trivial, fun b hb => absurd (show b ∈ ([] : List Addr) from hb) (by simp), hok, .of_eq hg⟩
    refine codeAny_mono ((F _ hKb (nsK hns)).run [] s₁ H ⟨[.ref a], []⟩ [.ref a] [.ref a] _ _ hr e0 (hbind s₁ (.ref a)) (.cons rfl .nil) (hsp H hO hS)) fun r s' h => ?_
    cases r with
    | error e => exact (hCX H e s' h).elim
    | ok fl =>
      cases fl with
      | next => exact False.elim h
      | brk => exact False.elim h
      | cont => exact False.elim h
      | ret u =>
        obtain ⟨v, H', os, bare, un, hok', r', q⟩ := h
        have q' : v = .bl true := q
        subst q'
        obtain rfl : u = Value.bool true := r'
        refine ⟨rfl, OldK.of_keep fun b o e => ?_, os, bare⟩
        cases q : H b with
        | none => exact un.keep b o e q (by intro z; exact absurd (show b ∈ ([] : List Addr) from z) (by simp)) (by simp)
        | some u =>
          rcases hO b with z | ⟨ob, xs, z⟩
          · rw [q] at z; cases z
          · have z2 := un.frzs b ob _ z
            obtain ⟨e1, _⟩ := hok b _ z
            obtain ⟨e2, _⟩ := hok' b _ z2
            rw [e] at e1; cases e1
            exact e2
  cases hk : K.lookup a with
  | some o =>
    -- the script is one of the module's own objects
    have e := KX a o hk
    rw [ha] at e
    cases e
    refine core (fun _ => none) (fun _ => .inl rfl) (.inr ⟨_, vs.toArray, _, hk, rfl, rfl, rfl, by rw [List.size_toArray, lenV]; exact hl, by simpa using rv⟩) (fun b u z => by have z' : (none : Option HO) = some u := z; cases z') (fun b z => absurd rfl z) fun z => absurd rfl z
  | none =>
    refine core (fun b => if b = a then some (.frz { cls := .type "list", data := .seq vs.toArray } (.lst (ns.map V.int))) else none) (fun b => ?_) (.inl (.inr ⟨{ cls := .type "list", data := .seq vs.toArray }, if_pos rfl⟩)) (fun b u z => ?_) (fun b z => ?_) fun _ => hk
    · by_cases hb : b = a
      · exact .inr ⟨_, _, if_pos hb⟩
      · exact .inl (if_neg hb)
    · by_cases hb : b = a
      · have z' := (if_pos hb).symm.trans z
        cases z'
        subst hb
        exact ⟨ha, by rw [List.length_map]; exact hl, vs, _, rv, ha⟩
      · have z' := (if_neg hb).symm.trans z
        cases z'
    · by_cases hb : b = a
      · exact hb
      · exact absurd (if_neg hb) z
theorem walk_ofG {l : PySem.W.OpenLaw} {n k : Nat} {q : Program} {loose : List Str} {XP : (Str → Option Value) → Heap → Prop} {YP : World → Heap → Prop} {d : DefRec} {CX : World → CXT} {x : Str}
    (hn : l.most = some n) (hn2 : n ≤ sizeLine) (hdf : d.params.defaults = []) (hr : Room k callerA)
    (F : ∀ (w : World) (mg : Str → Option Value) (fa : Addr) (h : Heap), YP w h → h.Ns mainGlobals mg → mg d.name = some (.ref fa) →
      ∃ (K : PySem.W.Frag) (fd : FuncData) (sp : Sp), K.In h ∧ (∀ (s : Shared) (u : Value), BindsTo s fd ⟨[u], []⟩ [(x, u)]) ∧
        (∀ (H : Hp) (a : Addr) (ns : List Int), ns.length ≤ n → Only H → SqL K H a (ns.map V.int) → sp [.ref a] H (fun v _ => v = .bl true) fun _ _ _ => False) ∧
        ∀ base : Heap, K.In base → base.Ns mainGlobals mg → FnAt l.prog w K mg base (CX w) k callerA fa fd [x] sp)
    (hCX : ∀ (w : World) (H : Hp) (s : Shared) (e : Value) (s' : Shared), CX w [] H s (fun _ _ _ => False) e s' → False) :
    PySem.W.WalkO q loose XP YP l.row.toRowW d [] (fun f vs => PySem.call f vs) := by
  refine Att.attach_call hn hdf fun w s₀ s₁ mg mb fa o pm cd doc a vs ns G Y ho hd hcd hmg hobj hints hlen hg => ?_
  obtain ⟨K, fd, sp, KX, hb, hsp, hF⟩ := F w mg fa _ Y G.T.g hmg
  exact law_callG KX G.T.g G.T.b G.T.builtins G.T.nolimit hg hobj hints (Nat.le_trans hlen hn2) hr hF hb (fun H hO hS => hsp H a ns hlen hO hS) fun H e s' => hCX w H s₁ e s'

end L2
set_option maxRecDepth 100000
set_option maxHeartbeats 4000000
/-! Ab20: the law's own def; repr; == over lists in memory; written dicts. -/
namespace Ab
open PySem PySem.Spec L2 PyProof.Rows
theorem _root_.L2.Room.u200 {k : Nat} {A : Around} (r : Room k A) : A.units + 200 < cLine := by have := r.un; omega
theorem afnAt {P : Program} {w : World} {K : PySem.W.Frag} {mg : Str → Option Value} {base : Heap} {nm qual : Str} {params : Arguments} {body : List Stmt} {scope : Scope} {dvs : List V} {kws : List (Str × V)} {f : Addr} {fd : FuncData} {N ps : List Str} {k : Nat} {S : ASp} {t : AS} (A : Around)
    (Fd : FunD K nm qual params body scope dvs kws f fd) (Sc : FnScope N ps scope) (len : ∀ ds M P EX, S ds M P EX → ds.length = ps.length)
    (den : ∀ (cdv : Value) (outer : List Env) (s : Shared) (H : Hp) (E : XK), Room k (A.deeper (envOfC qual scope s.heap.objs.size f cdv)) → DenB (cxOf (L2.CX P w) P w K mg base N qual scope f cdv A outer s H E) body t)
    (vc : ∀ ds M P EX, S ds M P EX → t (startA N ds) M (retK P EX)) : FnAt P w K mg base (L2.CX P w) (k + 1) A f fd ps (spOf K S) := by
  obtain ⟨oc, od, dV, kV, doc, pm, an, cdv, ct, osl, rfl, lk, hcd, _, _⟩ := Fd.ex
  refine fn_at lk hcd Sc (fun vs H Q E h => ?_) A fun outer s H vs Q E hr h => ⟨BW _ body, pss_bw, ?_⟩
  · obtain ⟨F, ds, M, P', EX, dv, _, q, _⟩ := h
    exact dv.length.trans (len _ _ _ _ q)
  · obtain ⟨F, ds, M, P', EX, dv, m, q, hP, hX⟩ := h
    have tk : Takes (cxOf (L2.CX P w) P w K mg base N qual scope f cdv A outer s H E) (fun cls d _ H' => E cls d H') := takes_of rfl rfl rfl rfl
    refine (den cdv outer s H E hr).run F _ M _ _ _ H _ ⟨start_sl dv, m⟩ tk (vc ds M P' EX q) ⟨fun ρ' M' σ' H' st S' z => ?_, fun v d M' H' st m' dv' z => ?_, fun _ _ _ _ _ _ z => z.elim, fun _ _ _ _ _ _ z => z.elim, fun x ρ' M' cls d σ' H' st S' xv z => ?_⟩
    · obtain ⟨M1, l, z⟩ := z
      exact hP _ _ M1 H' (st.trans l.step) (l.mst S'.ms) .non z
    · obtain ⟨M1, l, z⟩ := z
      exact hP _ _ M1 H' (st.trans l.step) (l.mst m') (dv'.anti l.um) z
    · obtain ⟨M1, l, z⟩ := z
      exact hX x M1 cls d H' (st.trans l.step) (l.mst S'.ms) (xv.anti l.um) z

/-! ### data, also of a list in memory -/
inductive PyR (M : Mem) : D → PyData → Prop
  | fr {x : D} {p : PyData} : IsPy x p → PyR M x p
  | mu {a : Addr} {l : List D} {ps : List PyData} : (a, MO.lst l) ∈ M → Paired IsPy l ps → PyR M (.ref a) (.list ps)
section
variable {X : Cx} {F : List Addr} {M : Mem} {H : Hp}
theorem PyR.dp {x : D} {p : PyData} {v : V} (h : PyR M x p) (m : MSt X.K H F M) (dv : DV X.K H (um F M) v x) : Dp X.K H v p := by
  cases h with
  | fr h => exact h.dp dv
  | mu hm hp =>
    cases dv
    obtain ⟨xs, e1, e2⟩ := m.ok _ hm
    exact .lst (SqL.of e1) (IsPy.dps hp e2)
inductive EqPA : A2
  | py {x y : D} {p q : PyData} {M : Mem} {P : AK} : PyR M x p → PyR M y q → SeqAt.shaped p = true → SeqAt.shaped q = true → P (.bl (PyData.eqv p q)) M → EqPA x y M P
def NePA : A2 := fun x y M P => EqPA x y M (fun d M' => ∃ b, d = .bl b ∧ P (.bl (!b)) M')
theorem ok_eqP (hu : X.A.units + 64 < cLine) : OkA2 X (compareOp .Eq) EqPA := fun F x y v w M P H Q m dv dw h hP => by
  cases h with
  | py h1 h2 s1 s2 q => exact ⟨_, op_eqD hu, _, _, h1.dp m dv, h2.dp m dw, s1, s2, hP _ _ M H (Step.refl H M) m (.bl _) q⟩
theorem ok_neP (hu : X.A.units + 64 < cLine) : OkA2 X (compareOp .NotEq) NePA := fun F x y v w M P H Q m dv dw h hP => by
  cases h with
  | py h1 h2 s1 s2 q =>
    obtain ⟨b, e, q⟩ := q
    cases e
    exact ⟨_, op_neD hu, _, _, h1.dp m dv, h2.dp m dw, s1, s2, hP _ _ M H (Step.refl H M) m (.bl _) q⟩
/-! ### repr -/
theorem call_reprD (hg : X.A.guards = some []) (hu : X.A.units + 200 < cLine) : CallR X (.builtin "repr") (fun xs H Q => ∃ (a : Addr) (d : PyData), xs = [.ref a] ∧ Dp X.K H (.ref a) d ∧ d.showable = true ∧ d.hasDict = false ∧ d.depth ≤ 60 ∧ d.shown.length ≤ sizeLine ∧ Q (.str d.shown) H) := by
  intro pins s σ H xs us Q I r h
  obtain ⟨a, d, rfl, hd, h1, h2, h3, h4, q⟩ := h
  rw [Vals.ref1 r]
  obtain ⟨as, rd⟩ := Dp.reads I d (.ref a) (.ref a) hd rfl
  refine repr_of_reads' rd h1 (fun z => by rw [h2] at z; cases z) hg (by omega) (fun b o e => e) (fun h' u tk k => ?_) h4
  exact ⟨.str d.shown, H, I.kept (t' := tk) k, ⟨u, rfl⟩, q⟩
inductive ReprA : AC
  | mk {x : D} {p : PyData} {M : Mem} {P : AK} : PyR M x p → flatD x = none ∨ (∃ a, x = .ref a) → p.showable = true → p.hasDict = false → p.depth ≤ 60 → p.shown.length ≤ sizeLine → P (.str p.shown) M → ReprA [x] M P
theorem PyR.ref {x : D} {p : PyData} {v : V} (h : PyR M x p) (dv : DV X.K H (um F M) v x) (hf : flatD x = none ∨ (∃ a, x = .ref a)) : ∃ a, v = .ref a := by
  cases h with
  | mu _ _ => cases dv; exact ⟨_, rfl⟩
  | fr h =>
    rcases hf with hf | ⟨a, rfl⟩
    · cases h <;> cases dv <;> first | exact ⟨_, rfl⟩ | cases hf
    · cases h
theorem okc_repr (hg : X.A.guards = some []) (hu : X.A.units + 200 < cLine) : OkC X (.builtin "repr") ReprA := fun F ds vs M P H Q m dv h hP => by
  cases h with
  | mk hp hf h1 h2 h3 h4 q =>
    cases dv with
    | cons d1 d2 =>
      cases d2
      obtain ⟨a, rfl⟩ := hp.ref d1 hf
      exact ⟨_, call_reprD hg hu, a, _, rfl, hp.dp m d1, h1, h2, h3, h4, hP _ _ M H (Step.refl H M) m (.str _) q⟩
/-! ### written dicts -/
theorem de_dic0 {pos : Pos} : DenE X (.Dict [] [] pos) (aC (.dic [])) :=
  ⟨fun F ρ M P EX W σ H Q S tk h hP hX => pe_dnewK.ew (fun p hp => by
    have nl := S.ms.notin hp
    exact hP _ _ M _ (step_new hp) (mst_new S.ms hp) (.dic upd_same nl .nil) h)⟩
theorem de_dic1 {pos : Pos} {k v : Expr} {a : Str} {i : Int} (hk : PE X k (tC (.str a))) (hv : PE X v (tC (.int i))) : DenE X (.Dict [some k] [v] pos) (aC (.dic [(.inr a, .int i)])) :=
  ⟨fun F ρ M P EX W σ H Q S tk h hP hX => (pe_disp (pps_cons hk hv pps_nil) rfl rfl (by simp) (by simp)).ew (fun p hp => by
    have nl := S.ms.notin hp
    refine ⟨upd_same, [(.inr a, .int i)], rfl, by simp, ?_⟩
    have s1 : Step H M (upd (upd H p (.dK [])) p (.dK (mergeK [] [(.inr a, .int i)]))) M := ⟨fun b u _ e => by rw [upd_ne (ne_of_none e hp), upd_ne (ne_of_none e hp)]; exact e, fun b hb => Or.inl hb⟩
    have e : upd (upd H p (.dK [])) p (.dK (mergeK [] [(.inr a, .int i)])) = upd H p (.dK (mergeK [] [(.inr a, .int i)])) := by
      funext b
      by_cases q : b = p
      · rw [q, upd_same, upd_same]
      · rw [upd_ne q, upd_ne q, upd_ne q]
    rw [e] at s1 ⊢
    exact hP _ _ M _ s1 (mst_new S.ms hp) (.dic upd_same nl (.cons (.int i) .nil)) h)⟩
end
end Ab
set_option maxRecDepth 100000
set_option maxHeartbeats 2000000
/-! Ab21: more steps of the readings. -/
namespace Ab
open PySem L2 PyProof.Rows
theorem kb_NoneType_int : kitB "NoneType" "int" = some false := by decide +kernel
theorem kb_NoneType_bool : kitB "NoneType" "bool" = some false := by decide +kernel
theorem kb_NoneType_str : kitB "NoneType" "str" = some false := by decide +kernel
theorem kb_NoneType_tuple : kitB "NoneType" "tuple" = some false := by decide +kernel
theorem kb_NoneType_list : kitB "NoneType" "list" = some false := by decide +kernel
theorem kb_NoneType_dict : kitB "NoneType" "dict" = some false := by decide +kernel
theorem kb_bool_int : kitB "bool" "int" = some true := by decide +kernel
theorem kb_bool_bool : kitB "bool" "bool" = some true := by decide +kernel
theorem kb_bool_str : kitB "bool" "str" = some false := by decide +kernel
theorem kb_bool_tuple : kitB "bool" "tuple" = some false := by decide +kernel
theorem kb_bool_list : kitB "bool" "list" = some false := by decide +kernel
theorem kb_bool_dict : kitB "bool" "dict" = some false := by decide +kernel
theorem kb_int_int : kitB "int" "int" = some true := by decide +kernel
theorem kb_int_bool : kitB "int" "bool" = some false := by decide +kernel
theorem kb_int_str : kitB "int" "str" = some false := by decide +kernel
theorem kb_int_tuple : kitB "int" "tuple" = some false := by decide +kernel
theorem kb_int_list : kitB "int" "list" = some false := by decide +kernel
theorem kb_int_dict : kitB "int" "dict" = some false := by decide +kernel
theorem kb_str_int : kitB "str" "int" = some false := by decide +kernel
theorem kb_str_bool : kitB "str" "bool" = some false := by decide +kernel
theorem kb_str_str : kitB "str" "str" = some true := by decide +kernel
theorem kb_str_tuple : kitB "str" "tuple" = some false := by decide +kernel
theorem kb_str_list : kitB "str" "list" = some false := by decide +kernel
theorem kb_str_dict : kitB "str" "dict" = some false := by decide +kernel
theorem kb_tuple_int : kitB "tuple" "int" = some false := by decide +kernel
theorem kb_tuple_bool : kitB "tuple" "bool" = some false := by decide +kernel
theorem kb_tuple_str : kitB "tuple" "str" = some false := by decide +kernel
theorem kb_tuple_tuple : kitB "tuple" "tuple" = some true := by decide +kernel
theorem kb_tuple_list : kitB "tuple" "list" = some false := by decide +kernel
theorem kb_tuple_dict : kitB "tuple" "dict" = some false := by decide +kernel
theorem kb_list_int : kitB "list" "int" = some false := by decide +kernel
theorem kb_list_bool : kitB "list" "bool" = some false := by decide +kernel
theorem kb_list_str : kitB "list" "str" = some false := by decide +kernel
theorem kb_list_tuple : kitB "list" "tuple" = some false := by decide +kernel
theorem kb_list_list : kitB "list" "list" = some true := by decide +kernel
theorem kb_list_dict : kitB "list" "dict" = some false := by decide +kernel
theorem kb_dict_int : kitB "dict" "int" = some false := by decide +kernel
theorem kb_dict_bool : kitB "dict" "bool" = some false := by decide +kernel
theorem kb_dict_str : kitB "dict" "str" = some false := by decide +kernel
theorem kb_dict_tuple : kitB "dict" "tuple" = some false := by decide +kernel
theorem kb_dict_list : kitB "dict" "list" = some false := by decide +kernel
theorem kb_dict_dict : kitB "dict" "dict" = some true := by decide +kernel
section
variable {M : Mem} {P : AK} {EX : XKA} {d : D} {ρ : Rho} {ta tb : AE} {A B : Prop}
theorem aWk_r (h : ta ρ M (fun d M1 => ∃ d', WkD d d' ∧ P d' M1) EX) : aWk ta ρ M P EX := h
theorem wk_t {l : List D} {Q : D → Prop} (h : Q (.tup l)) : ∃ d', WkD (.tpn l) d' ∧ Q d' := ⟨_, .tpn, h⟩
theorem wk_k {Q : D → Prop} (h : Q d) : ∃ d', WkD d d' ∧ Q d' := ⟨_, .keep, h⟩
theorem aTIx_r {t : AA} (h : ta ρ M (fun x M1 => (∃ l, x = .tpn l) ∧ t ρ M1 (fun ds M2 => TIndexA x ds M2 P) EX) EX) : aTIx ta t ρ M P EX := h
theorem tpn_r {l : List D} (h : A) : (∃ l', D.tpn l = .tpn l') ∧ A := ⟨⟨l, rfl⟩, h⟩
theorem aStep_r (h : ta ρ M (fun d M1 => tb ρ M1 (fun e M2 => ∃ k, e = .int k ∧ RevA d k M2 P) EX) EX) : aStep ta tb ρ M P EX := h
theorem tru_b {b : Bool} {PB : Bool → Prop} (h : PB b) : ∃ b', TruA M (.bl b) b' ∧ PB b' := ⟨b, .bl, h⟩
theorem ite_nt (h : B) : ((!true) = true → A) ∧ ((!true) = false → B) := ⟨fun z => Bool.noConfusion z, fun _ => h⟩
theorem ite_nf (h : A) : ((!false) = true → A) ∧ ((!false) = false → B) := ⟨fun _ => h, fun z => Bool.noConfusion z⟩
theorem obj_r {C : Addr} {fs : List (Str × D)} {m : Str} (h : fs.lookup m = none) (k : A) : (∃ fs', InsA M (.obj C fs) C fs' ∧ fs'.lookup m = none) ∧ A := ⟨⟨fs, .fr, h⟩, k⟩
theorem fld_r {C : Addr} {fs : List (Str × D)} {f : Str} {v : D} {Q : D → Prop} (h : fs.lookup f = some v) (k : Q v) : ∃ fs' v', InsA M (.obj C fs) C fs' ∧ fs'.lookup f = some v' ∧ Q v' := ⟨fs, v, .fr, h, k⟩
theorem aTryK_r {i j : Nat} {yes no : List Addr} {t : AS} {k : KE} (h : t ρ M { k with ex := fun xe ρ' M' => (xe.cls ∈ yes ∧ xe.fs = none ∧ i < ρ'.length ∧ j < ρ'.length ∧ k.nx (unS (sS ρ' j (.exc xe.cls)) i) M') ∨ (xe.cls ∈ no ∧ k.ex xe ρ' M') }) : aTryK i j yes no t ρ M k := h
theorem iEnumTA_r {t : AA} {PL : List D → Mem → Prop} (h : t ρ M (fun ds M1 => ∃ l, ds = [.tup l] ∧ PL (enumD l) M1) EX) : iEnumTA t ρ M PL EX := h
theorem en_t {l : List D} {PL : List D → Prop} (h : PL l) : ∃ l', [D.tup l] = [.tup l'] ∧ PL l' := ⟨l, rfl, h⟩
theorem aLc2L_r {vs vs1 : List Nat} {ai ai1 : AI} {g g1 : AG} {tt tt1 : AT} {R : List D → Mem → AK → Prop} (h : ai ρ M (fun xs M1 => LcA2 vs vs1 g tt ai1 g1 tt1 ta xs ρ M1 (fun acc M2 => R acc M2 P)) EX) : aLc2L vs vs1 ai g tt ai1 g1 tt1 ta R ρ M P EX := h
theorem aLcC_r {vs : List Nat} {ai : AIC} {g : AG} {tt : AT} {R : List D → Mem → AK → Prop} (h : ai ρ M (fun xs C M1 => LcC vs g tt ta xs C ρ M1 (fun acc M2 => R acc M2 P)) EX) : aLcC vs ai g tt ta R ρ M P EX := h
theorem iMemA_r {PL : List D → (Mem → Prop) → Mem → Prop} (h : ta ρ M (fun d M1 => ∃ a l, d = .ref a ∧ (a, MO.lst l) ∈ M1 ∧ PL l (fun M' => (a, MO.lst l) ∈ M') M1) EX) : iMemA ta ρ M PL EX := h
theorem cm0 {S : ASp} {ds : List D} (h : S ds [] (fun d Mc => P d (Mc ++ M)) (fun x Mc => EX x (Mc ++ M))) : CallM S ds M P EX := callM_none h
/-- a comprehension that keeps memory as it is and makes the items ys -/
theorem LcA.pure {vs : List Nat} {g : AG} {tt : AT} {te : AE} {xs : List D} {Pr : List D → Mem → Prop} (ys : List D) (hy : ys.length = xs.length)
    (h : ∀ (i : Nat) (d : D), xs[i]? = some d → g d (wipeA ρ vs) M (fun ρ2 M2 => tt ρ2 M2 (fun b M3 => (b = true → te ρ2 M3 (fun y M4 => (ys.take i).length < 100000 ∧ (M4 = M ∧ ys.take i ++ [y] = ys.take (i + 1))) noX) ∧ (b = false → (M3 = M ∧ ys.take i = ys.take (i + 1)))) noX)) (hp : Pr ys M) : LcA vs g tt te xs ρ M Pr := by
  refine ⟨fun i acc M' => M' = M ∧ acc = ys.take i, ⟨rfl, by simp⟩, fun i d acc M' hx hj => ?_, fun acc M' hj => ?_⟩
  · obtain ⟨rfl, rfl⟩ := hj
    exact h i d hx
  · obtain ⟨rfl, rfl⟩ := hj
    rw [← hy, List.take_length]; exact hp
theorem lc_post {ys : List D} {i : Nat} {y : D} (hl : ys.length ≤ 100000) (e : ys[i]? = some y) : (ys.take i).length < 100000 ∧ (M = M ∧ ys.take i ++ [y] = ys.take (i + 1)) := by
  obtain ⟨h, rfl⟩ := List.getElem?_eq_some_iff.mp e
  refine ⟨by rw [List.length_take]; omega, rfl, ?_⟩
  rw [List.take_succ_eq_append_getElem h]
theorem isi_non_int (h : P (.bl false) M) : IsiA [D.non, .ty "int"] M P := .one .non kb_NoneType_int h
theorem isi_non_bool (h : P (.bl false) M) : IsiA [D.non, .ty "bool"] M P := .one .non kb_NoneType_bool h
theorem isi_non_str (h : P (.bl false) M) : IsiA [D.non, .ty "str"] M P := .one .non kb_NoneType_str h
theorem isi_non_tuple (h : P (.bl false) M) : IsiA [D.non, .ty "tuple"] M P := .one .non kb_NoneType_tuple h
theorem isi_non_list (h : P (.bl false) M) : IsiA [D.non, .ty "list"] M P := .one .non kb_NoneType_list h
theorem isi_non_dict (h : P (.bl false) M) : IsiA [D.non, .ty "dict"] M P := .one .non kb_NoneType_dict h
theorem isi_bl_int {b : Bool} (h : P (.bl true) M) : IsiA [D.bl b, .ty "int"] M P := .one .bl kb_bool_int h
theorem isi_bl_bool {b : Bool} (h : P (.bl true) M) : IsiA [D.bl b, .ty "bool"] M P := .one .bl kb_bool_bool h
theorem isi_bl_str {b : Bool} (h : P (.bl false) M) : IsiA [D.bl b, .ty "str"] M P := .one .bl kb_bool_str h
theorem isi_bl_tuple {b : Bool} (h : P (.bl false) M) : IsiA [D.bl b, .ty "tuple"] M P := .one .bl kb_bool_tuple h
theorem isi_bl_list {b : Bool} (h : P (.bl false) M) : IsiA [D.bl b, .ty "list"] M P := .one .bl kb_bool_list h
theorem isi_bl_dict {b : Bool} (h : P (.bl false) M) : IsiA [D.bl b, .ty "dict"] M P := .one .bl kb_bool_dict h
theorem isi_int_int {i : Int} (h : P (.bl true) M) : IsiA [D.int i, .ty "int"] M P := .one .int kb_int_int h
theorem isi_int_bool {i : Int} (h : P (.bl false) M) : IsiA [D.int i, .ty "bool"] M P := .one .int kb_int_bool h
theorem isi_int_str {i : Int} (h : P (.bl false) M) : IsiA [D.int i, .ty "str"] M P := .one .int kb_int_str h
theorem isi_int_tuple {i : Int} (h : P (.bl false) M) : IsiA [D.int i, .ty "tuple"] M P := .one .int kb_int_tuple h
theorem isi_int_list {i : Int} (h : P (.bl false) M) : IsiA [D.int i, .ty "list"] M P := .one .int kb_int_list h
theorem isi_int_dict {i : Int} (h : P (.bl false) M) : IsiA [D.int i, .ty "dict"] M P := .one .int kb_int_dict h
theorem isi_str_int {z : Str} (h : P (.bl false) M) : IsiA [D.str z, .ty "int"] M P := .one .str kb_str_int h
theorem isi_str_bool {z : Str} (h : P (.bl false) M) : IsiA [D.str z, .ty "bool"] M P := .one .str kb_str_bool h
theorem isi_str_str {z : Str} (h : P (.bl true) M) : IsiA [D.str z, .ty "str"] M P := .one .str kb_str_str h
theorem isi_str_tuple {z : Str} (h : P (.bl false) M) : IsiA [D.str z, .ty "tuple"] M P := .one .str kb_str_tuple h
theorem isi_str_list {z : Str} (h : P (.bl false) M) : IsiA [D.str z, .ty "list"] M P := .one .str kb_str_list h
theorem isi_str_dict {z : Str} (h : P (.bl false) M) : IsiA [D.str z, .ty "dict"] M P := .one .str kb_str_dict h
theorem isi_tup_int {l : List D} (h : P (.bl false) M) : IsiA [D.tup l, .ty "int"] M P := .one .tup kb_tuple_int h
theorem isi_tup_bool {l : List D} (h : P (.bl false) M) : IsiA [D.tup l, .ty "bool"] M P := .one .tup kb_tuple_bool h
theorem isi_tup_str {l : List D} (h : P (.bl false) M) : IsiA [D.tup l, .ty "str"] M P := .one .tup kb_tuple_str h
theorem isi_tup_tuple {l : List D} (h : P (.bl true) M) : IsiA [D.tup l, .ty "tuple"] M P := .one .tup kb_tuple_tuple h
theorem isi_tup_list {l : List D} (h : P (.bl false) M) : IsiA [D.tup l, .ty "list"] M P := .one .tup kb_tuple_list h
theorem isi_tup_dict {l : List D} (h : P (.bl false) M) : IsiA [D.tup l, .ty "dict"] M P := .one .tup kb_tuple_dict h
theorem isi_tpn_int {l : List D} (h : P (.bl false) M) : IsiA [D.tpn l, .ty "int"] M P := .one .tpn kb_tuple_int h
theorem isi_tpn_bool {l : List D} (h : P (.bl false) M) : IsiA [D.tpn l, .ty "bool"] M P := .one .tpn kb_tuple_bool h
theorem isi_tpn_str {l : List D} (h : P (.bl false) M) : IsiA [D.tpn l, .ty "str"] M P := .one .tpn kb_tuple_str h
theorem isi_tpn_tuple {l : List D} (h : P (.bl true) M) : IsiA [D.tpn l, .ty "tuple"] M P := .one .tpn kb_tuple_tuple h
theorem isi_tpn_list {l : List D} (h : P (.bl false) M) : IsiA [D.tpn l, .ty "list"] M P := .one .tpn kb_tuple_list h
theorem isi_tpn_dict {l : List D} (h : P (.bl false) M) : IsiA [D.tpn l, .ty "dict"] M P := .one .tpn kb_tuple_dict h
theorem isi_lst_int {l : List D} (h : P (.bl false) M) : IsiA [D.lst l, .ty "int"] M P := .one .lst kb_list_int h
theorem isi_lst_bool {l : List D} (h : P (.bl false) M) : IsiA [D.lst l, .ty "bool"] M P := .one .lst kb_list_bool h
theorem isi_lst_str {l : List D} (h : P (.bl false) M) : IsiA [D.lst l, .ty "str"] M P := .one .lst kb_list_str h
theorem isi_lst_tuple {l : List D} (h : P (.bl false) M) : IsiA [D.lst l, .ty "tuple"] M P := .one .lst kb_list_tuple h
theorem isi_lst_list {l : List D} (h : P (.bl true) M) : IsiA [D.lst l, .ty "list"] M P := .one .lst kb_list_list h
theorem isi_lst_dict {l : List D} (h : P (.bl false) M) : IsiA [D.lst l, .ty "dict"] M P := .one .lst kb_list_dict h
theorem isi_dic_int {kv : List (Key × D)} (h : P (.bl false) M) : IsiA [D.dic kv, .ty "int"] M P := .one .dic kb_dict_int h
theorem isi_dic_bool {kv : List (Key × D)} (h : P (.bl false) M) : IsiA [D.dic kv, .ty "bool"] M P := .one .dic kb_dict_bool h
theorem isi_dic_str {kv : List (Key × D)} (h : P (.bl false) M) : IsiA [D.dic kv, .ty "str"] M P := .one .dic kb_dict_str h
theorem isi_dic_tuple {kv : List (Key × D)} (h : P (.bl false) M) : IsiA [D.dic kv, .ty "tuple"] M P := .one .dic kb_dict_tuple h
theorem isi_dic_list {kv : List (Key × D)} (h : P (.bl false) M) : IsiA [D.dic kv, .ty "list"] M P := .one .dic kb_dict_list h
theorem isi_dic_dict {kv : List (Key × D)} (h : P (.bl true) M) : IsiA [D.dic kv, .ty "dict"] M P := .one .dic kb_dict_dict h
theorem isn_non (h : P (.bl true) M) : IsA (.non) .non M P := .non h
theorem isnt_non (h : P (.bl false) M) : IsNotA (.non) .non M P := .non h
theorem isn_bl {b : Bool} (h : P (.bl false) M) : IsA (.bl b) .non M P := .non h
theorem isnt_bl {b : Bool} (h : P (.bl true) M) : IsNotA (.bl b) .non M P := .non h
theorem isn_int {i : Int} (h : P (.bl false) M) : IsA (.int i) .non M P := .non h
theorem isnt_int {i : Int} (h : P (.bl true) M) : IsNotA (.int i) .non M P := .non h
theorem isn_str {z : Str} (h : P (.bl false) M) : IsA (.str z) .non M P := .non h
theorem isnt_str {z : Str} (h : P (.bl true) M) : IsNotA (.str z) .non M P := .non h
theorem isn_tup {l : List D} (h : P (.bl false) M) : IsA (.tup l) .non M P := .non h
theorem isnt_tup {l : List D} (h : P (.bl true) M) : IsNotA (.tup l) .non M P := .non h
theorem isn_lst {l : List D} (h : P (.bl false) M) : IsA (.lst l) .non M P := .non h
theorem isnt_lst {l : List D} (h : P (.bl true) M) : IsNotA (.lst l) .non M P := .non h
theorem isn_ref {a : Addr} (h : P (.bl false) M) : IsA (.ref a) .non M P := .non h
theorem isnt_ref {a : Addr} (h : P (.bl true) M) : IsNotA (.ref a) .non M P := .non h
theorem isn_exc {a : Addr} (h : P (.bl false) M) : IsA (.exc a) .non M P := .non h
theorem isnt_exc {a : Addr} (h : P (.bl true) M) : IsNotA (.exc a) .non M P := .non h
theorem isn_obj {a : Addr} {fs : List (Str × D)} (h : P (.bl false) M) : IsA (.obj a fs) .non M P := .non h
theorem isnt_obj {a : Addr} {fs : List (Str × D)} (h : P (.bl true) M) : IsNotA (.obj a fs) .non M P := .non h
theorem frz_1 {a : Addr} {l : List D} (h : P (.lst l) []) : FrzA (.ref a) [(a, .lst l)] P := .lst Split.all h
theorem frz_2 {a : Addr} {l : List D} {p : Addr × MO} (h : P (.lst l) [p]) : FrzA (.ref a) [p, (a, .lst l)] P := .lst (List.Perm.swap _ _ _) h
theorem frz_3 {a : Addr} {l : List D} {p q : Addr × MO} (h : P (.lst l) [p, q]) : FrzA (.ref a) [p, q, (a, .lst l)] P := .lst split_3 h
theorem frz_4 {a : Addr} {l : List D} {p q r : Addr × MO} (h : P (.lst l) [p, q, r]) : FrzA (.ref a) [p, q, r, (a, .lst l)] P :=
  .lst (((List.Perm.swap _ _ _).trans ((List.Perm.swap _ _ _).cons _)).trans (((List.Perm.swap _ _ _).cons _).cons _)) h
theorem frz_int {i : Int} (h : P (.int i) M) : FrzA (.int i) M P := .keep h
theorem frz_str {z : Str} (h : P (.str z) M) : FrzA (.str z) M P := .keep h
theorem frz_bl {b : Bool} (h : P (.bl b) M) : FrzA (.bl b) M P := .keep h
theorem frz_tup {l : List D} (h : P (.tup l) M) : FrzA (.tup l) M P := .keep h
theorem frz_lst {l : List D} (h : P (.lst l) M) : FrzA (.lst l) M P := .keep h
theorem frz_non (h : P .non M) : FrzA .non M P := .keep h
theorem len_le {ds : List D} {n : Nat} (h1 : ds.length ≤ n) (h : A) : ds.length ≤ n ∧ A := ⟨h1, h⟩
/-- a call that sees all of memory -/
theorem cmA {S : ASp} {ds : List D} (h : S ds M P EX) : CallM S ds M P EX := ⟨M, [], Split.all, by simpa using h⟩
/-- .. the first object of it -/
theorem cm1 {S : ASp} {ds : List D} {p : Addr × MO} (h : S ds [p] (fun d Mc => P d (Mc ++ M)) (fun x Mc => EX x (Mc ++ M))) : CallM S ds (p :: M) P EX := ⟨_, _, split_head, h⟩
end
end Ab
set_option maxRecDepth 100000
set_option maxHeartbeats 4000000
/-! Ab22: sorted over a tuple of texts. -/
namespace PyProof.Rows
open PySem
section
variable {prog : Program} {w : World} {A : Around} {E : Value → Shared → Prop} {s : Shared}
theorem collect_tupL {l : Addr} {vs : List Value} {Q : List Value → Shared → Prop} (hl : IsTup s.heap l vs.toArray)
    (h : Q vs { s with heap := (s.heap.push (seqObj "list" #[] 0)).update s.heap.objs.size (Obj.mapSeq (· ++ vs.toArray)) }) (hsz : vs.length ≤ sizeLine) :
    wpAny (model prog w) A (collect (.ref l)) Q E s := by
  obtain ⟨o, ho, hc, n, hd⟩ := id hl
  unfold collect
  refine wpAny_bind (wpAny_runValue (codeAny_builtin entry_proto_collect' ?_))
  show wpAny _ _ (do again (.builtin "list.__iadd__" ⟨[← newList [], .ref l], []⟩)) _ _ s
  refine wpAny_bind (wpAny_newList (wpAny_pure ⟨Code.quiet_builtin _ (by decide +kernel), codeAny_builtin entry_list_iadd' ?_⟩))
  show wpAny _ _ (Builtin.List.listExtendWith (.ref s.heap.objs.size) (.ref l) (.ref s.heap.objs.size)) _ _ { s with heap := s.heap.push (seqObj "list" #[] 0) }
  unfold Builtin.List.listExtendWith
  have ho' : (s.heap.push (seqObj "list" #[] 0)).get? l = some o := Heap.get?_push_of_some _ ho
  refine wpAny_bind (wpAny_typeOf (T := "tuple") ⟨o, ho', hc⟩ ?_)
  have ht : (Value.type "tuple" == Value.type "tuple") = true := by rfl
  rw [if_pos (by rw [ht]; simp)]
  refine wpAny_bind (listItems_at ho' hd ?_)
  refine wpAny_bind (listItems_at (xs := #[]) (n := 0) (Heap.get?_push_size _ rfl) rfl ?_)
  rw [if_neg (by simp)]
  refine wpAny_bind (listUpdate_at (xs := #[]) (n := 0) (Heap.get?_push_size _ rfl) rfl ?_ (Nat.zero_le _) (by show (#[] ++ vs.toArray).size ≤ sizeLine + 1; simp only [Array.size_append, List.size_toArray, List.length_nil]; omega))
  refine wpAny_pure ?_
  show wpAny (model prog w) A (do
      let o ← load s.heap.objs.size
      match o.data with
      | .seq xs _ => pure xs.toList
      | _ => unsupported "internal:collect") Q E { s with heap := (s.heap.push (seqObj "list" #[] 0)).update s.heap.objs.size (Obj.mapSeq (· ++ vs.toArray)) }
  refine wpAny_bind (wpAny_load (get?_update_seq (Heap.get?_push_size _ rfl) _) ?_)
  show wpAny _ _ (pure ((#[] : Array Value) ++ vs.toArray).toList) Q E _
  rw [show ((#[] : Array Value) ++ vs.toArray).toList = vs by simp]
  exact wpAny_pure h
theorem sorted_strsT {l : Addr} {vs : List Value} {ss : List Str} {Q : Value → Shared → Prop} (hl : IsTup s.heap l vs.toArray) (hS : StrsAre vs ss) (h64 : vs.length < 64)
    (h : ∀ (out : Array Value) (ss' : List Str), StrsAre out.toList ss' → ss'.Perm ss → sortedS ss' = true → Q (.ref (s.heap.objs.size + 1)) { s with heap := sortedAll s.heap vs out }) :
    wpAny (model prog w) A (call (.builtin "sorted") [.ref l]) Q E s := by
  refine Calls.call_function_entry kind_sorted plain_sorted entry_sorted (args_sorted1 _) ?_
  unfold Builtin.«sorted»
  refine wpAny_bind (m := checkCount "sorted" 1 1 _) (wpAny_pure ?_)
  refine wpAny_bind (collect_tupL hl ?_ (by rw [sizeLine_eq]; omega))
  refine wpAny_bind (wpAny_newList ?_)
  have hsz : ((s.heap.push (seqObj "list" #[] 0)).update s.heap.objs.size (Obj.mapSeq (· ++ vs.toArray))).objs.size = s.heap.objs.size + 1 := by
    rw [Heap.size_update, size_push']
  have hoL : (((s.heap.push (seqObj "list" #[] 0)).update s.heap.objs.size (Obj.mapSeq (· ++ vs.toArray))).push (seqObj "list" vs.toArray 0)).get? (s.heap.objs.size + 1) = some (seqObj "list" vs.toArray 0) := by
    rw [← hsz]; exact Heap.get?_push_size _ rfl
  show wpAny _ _ _ _ _ { s with heap := ((s.heap.push (seqObj "list" #[] 0)).update s.heap.objs.size (Obj.mapSeq (· ++ vs.toArray))).push (seqObj "list" vs.toArray 0) }
  rw [hsz]
  refine wpAny_bind (wpAny_holding (wpAny_call_entry slot_list_sort ⟨_, hoL, rfl⟩ entry_list_sort (list_sort_treeK strKind_oneLt hoL hS.keysOf (fun v₁ v₂ rest e => keyKind_strs (by rw [← e]; exact hS)) h64 fun st' hp hs => ⟨_, rfl, ?_⟩) (args_list_sort _)))
  obtain ⟨ss', h1, h2, h3⟩ := sorted_out_str hS hp hs
  exact wpAny_pure ⟨_, rfl, h _ ss' h1 h2 h3⟩
end
end PyProof.Rows
namespace Ab
open PySem PySem.Spec L2 PyProof.Rows
section
variable {X : Cx}
theorem call_sortedST : CallR X (.builtin "sorted") (fun vs H Q => ∃ (a : Addr) (xs : List Str), vs = [V.ref a] ∧ SqT X.K H a (xs.map V.str) ∧ xs.length < 64 ∧ ∀ (ys : List Str) (p : Addr), ys.Perm xs → sortedS ys = true → H p = none → Q (.ref p) (upd H p (.lst (ys.map V.str)))) := by
  intro pins s σ H vs us Q I r h
  obtain ⟨a, xs, rfl, hs, h64, q⟩ := h
  obtain ⟨its, rv, hl, _⟩ := I.tuple hs
  rw [Vals.ref1 r]
  have hlen0 := rv.length
  rw [List.length_map] at hlen0
  refine PyProof.Rows.sorted_strsT hl rv.strs (by rw [← hlen0]; exact h64) fun out ys h1 h2 h3 => ?_
  obtain ⟨ep, he'⟩ := PyProof.Rows.sortedAll_at s.heap its out
  have hlen : (ys.map V.str).length ≤ sizeLine := by rw [List.length_map, h2.length_eq]; exact small64 h64
  exact ⟨.ref _, upd H (s.heap.objs.size + 1) (.lst (ys.map V.str)), I.laid (t' := s.toks) (fun _ _ => PyProof.Rows.sortedAll_old) (Nat.le_succ _) ⟨hlen, out.toList, ep, vals_of_strs h1, he'⟩, rfl, q ys _ h2 h3 (I.hok.fresh (Nat.le_succ _))⟩
inductive SortedTA : AC
  | txts {ss : List Str} {M : Mem} {P : AK} : ss.length < 64 → (∀ ys : List Str, ys.Perm ss → sortedS ys = true → P (.lst (ys.map D.str)) M) → SortedTA [.tup (ss.map D.str)] M P
theorem okc_sortedT : OkC X (.builtin "sorted") SortedTA := fun F ds vs M P H Q m dv h hP => by
  cases h with
  | txts hl q =>
    cases dv with
    | cons d1 d2 =>
      cases d2
      obtain ⟨a, xs, rfl, e, t⟩ := d1.tup_inv
      have := DVs.strs t rfl
      subst this
      refine ⟨_, call_sortedST, a, _, rfl, e, hl, fun ys p h1 h2 hp => ?_⟩
      obtain ⟨s1, m1, d'⟩ := new_lst (X := X) (F := F) m hp (dvs_strs (bs := ys))
      exact hP _ _ M _ s1 m1 d' (q ys h1 h2)
theorem call_sumT (hc : X.calm = true) : CallR X (.builtin "sum") (fun vs H Q => ∃ (a : Addr) (ns : List Int), vs = [V.ref a] ∧ SqT X.K H a (ns.map V.int) ∧ Q (.int ns.sum) H) := by
  intro pins s σ H vs us Q I r h
  obtain ⟨a, ns, rfl, hs, q⟩ := h
  obtain ⟨its, rv, hl, _⟩ := I.tuple hs
  rw [Vals.ref1 r]
  have hi := rv.ints
  have hl' : s.heap.IsTuple a its.toArray := hl
  obtain ⟨xs, hx⟩ := hi.allInts.items
  have hn : numsOf its.toArray.toList = ns := by rw [show its.toArray.toList = its from rfl, hi.numsOf]
  rw [hx] at hl' hn
  rw [nums_intItems] at hn
  refine PySem.W.ktm_sumG (I.ok.hd hc) hl' fun h' tk t' hk => ?_
  rw [preSum_eq, List.take_of_length_le (by simp), hn]
  exact ⟨.int _, H, I.kept (t' := tk) hk, ⟨_, rfl⟩, q⟩
inductive SumTA : AC
  | tup {ns : List Int} {M : Mem} {P : AK} : P (.int ns.sum) M → SumTA [.tup (ns.map D.int)] M P
theorem okc_sumT (hc : X.calm = true) : OkC X (.builtin "sum") SumTA := fun F ds vs M P H Q m dv h hP => by
  cases h with
  | tup q =>
    cases dv with
    | cons d1 d2 =>
      cases d2
      obtain ⟨a, xs, rfl, e, t⟩ := d1.tup_inv
      have := DVs.rngI t rfl
      subst this
      exact ⟨_, call_sumT hc, a, _, rfl, e, hP _ _ M H (Step.refl H M) m (.int _) q⟩
end
section
variable {M : Mem} {ρ : Rho}
/-- a comprehension that keeps memory as it is: f i is what the turn i gives -/
theorem LcA.fil {vs : List Nat} {g : AG} {tt : AT} {te : AE} {xs : List D} {Pr : List D → Mem → Prop} (f : Nat → Option D)
    (h : ∀ (i : Nat) (d : D), xs[i]? = some d → g d (wipeA ρ vs) M (fun ρ2 M2 => tt ρ2 M2 (fun b M3 => (b = true → te ρ2 M3 (fun y M4 => ((List.range i).filterMap f).length < 100000 ∧ (M4 = M ∧ (List.range i).filterMap f ++ [y] = (List.range (i + 1)).filterMap f)) noX) ∧ (b = false → (M3 = M ∧ (List.range i).filterMap f = (List.range (i + 1)).filterMap f))) noX))
    (hp : Pr ((List.range xs.length).filterMap f) M) : LcA vs g tt te xs ρ M Pr := by
  refine ⟨fun i acc M' => M' = M ∧ acc = (List.range i).filterMap f, ⟨rfl, by simp⟩, fun i d acc M' hx hj => ?_, fun acc M' hj => ?_⟩
  · obtain ⟨rfl, rfl⟩ := hj
    exact h i d hx
  · obtain ⟨rfl, rfl⟩ := hj
    exact hp
theorem fil_yes {f : Nat → Option D} {i : Nat} {y : D} (hi : i < 100000) (e : f i = some y) : ((List.range i).filterMap f).length < 100000 ∧ (M = M ∧ (List.range i).filterMap f ++ [y] = (List.range (i + 1)).filterMap f) := by
  refine ⟨Nat.lt_of_le_of_lt (List.length_filterMap_le _ _) (by simpa using hi), rfl, ?_⟩
  rw [List.range_succ, List.filterMap_append]
  simp [e]
theorem fil_no {f : Nat → Option D} {i : Nat} (e : f i = none) : (M = M ∧ (List.range i).filterMap f = (List.range (i + 1)).filterMap f) := by
  refine ⟨rfl, ?_⟩
  rw [List.range_succ, List.filterMap_append]
  simp [e]
theorem fil_all {α : Type} (l : List α) (g : α → Option D) : (List.range l.length).filterMap (fun i => (l[i]?).bind g) = l.filterMap g := by
  induction l with
  | nil => rfl
  | cons a r ih =>
    rw [List.length_cons, List.range_succ_eq_map, List.filterMap_cons, List.filterMap_map]
    have e : ((fun i => ((a :: r)[i]?).bind g) ∘ Nat.succ) = fun i => (r[i]?).bind g := by funext i; simp
    rw [e, ih]
    cases q : g a <;> simp [q]
theorem aAugS_r {neg : Bool} {to ti te : AE} {k : KE} (h : to ρ M (fun o M1 => ti ρ M1 (fun i M2 => ∃ (a : Addr) (l : List D) (j : Nat) (c : Int), o = .ref a ∧ i = .int (j : Int) ∧ (a, MO.lst l) ∈ M2 ∧ l[j]? = some (.int c) ∧
  te ρ M2 (fun y M3 => ∃ c2 M4, y = .int c2 ∧ PutM M3 a (.lst l) (.lst (l.set j (.int (if neg = true then c - c2 else c + c2)))) M4 ∧ k.nx ρ M4) (fun x M' => k.ex x ρ M')) (fun x M' => k.ex x ρ M')) (fun x M' => k.ex x ρ M')) : aAugS neg to ti te ρ M k := h
end
end Ab
set_option maxRecDepth 100000
set_option maxHeartbeats 4000000
/-! Ab23: data that can be shown; texts in rows of texts. -/
namespace Ab
open PySem PySem.Spec L2 PyProof.Rows
/-- data of at most so much depth and weight, whose repr is told -/
structure Shw (k w : Nat) (p : PyData) : Prop where
  sh : p.showable = true
  nd : p.hasDict = false
  lay : p.canLay0 = true
  dep : p.depth ≤ k
  lv : p.leavesShort 13 = true
  wt : p.weight ≤ w
theorem Shw.int {i : Int} (h : i.natAbs < 10 ^ 12) : Shw 0 40 (.int i) := by
  have e : (10 : Nat) ^ 12 = 1000000000000 := by decide
  have l40 : i.natAbs.log2 < 40 := by
    by_cases h0 : i.natAbs = 0
    · rw [h0]; decide
    · exact (Nat.log2_lt h0).mpr (by rw [e] at h; exact Nat.lt_trans h (by decide))
  refine ⟨by simp only [PyData.showable]; exact decide_eq_true (by omega), by simp [PyData.hasDict], by simp [PyData.canLay0], by simp [PyData.depth], ?_, ?_⟩
  · simp only [PyData.leavesShort]
    exact decide_eq_true (PyData.shown_int_le h)
  · simp only [PyData.weight]
    split <;> omega
theorem Shw.bl {b : Bool} : Shw 0 0 (.bool b) := ⟨by simp [PyData.showable], by simp [PyData.hasDict], by simp [PyData.canLay0], by simp [PyData.depth], by simp [PyData.leavesShort], by simp [PyData.weight]⟩
theorem Shw.non : Shw 0 0 .none := ⟨by simp [PyData.showable], by simp [PyData.hasDict], by simp [PyData.canLay0], by simp [PyData.depth], by simp [PyData.leavesShort], by simp [PyData.weight]⟩
theorem Shw.str {s : Str} {w : Nat} (h : s.length ≤ w) (hc : ∀ c ∈ s.cps.toList, c < 55296) : Shw 0 w (.str s) := by
  refine ⟨by simp [PyData.showable], by simp [PyData.hasDict], ?_, by simp [PyData.depth], ?_, ?_⟩
  · simp only [PyData.canLay0, PyData.strOk]
    rw [Array.all_eq_true_iff_forall_mem]
    intro c hc'
    have := hc c (Array.mem_toList_iff.mpr hc')
    simp; omega
  · simp only [PyData.leavesShort, List.all_eq_true, decide_eq_true_eq]
    intro c hc'
    have := hc c hc'
    have e : (16 : Nat) ^ 8 = 4294967296 := by decide
    omega
  · simp only [PyData.weight]; exact h
theorem Shw.mono {k w k' w' : Nat} {p : PyData} (h : Shw k w p) (hk : k ≤ k') (hw : w ≤ w') : Shw k' w' p := ⟨h.sh, h.nd, h.lay, Nat.le_trans h.dep hk, h.lv, Nat.le_trans h.wt hw⟩
theorem Shw.all {k w : Nat} : ∀ {ps : List PyData}, (∀ p ∈ ps, Shw k w p) → PyData.showableAll ps = true ∧ PyData.hasDictAll ps = false ∧ PyData.canLayAll0 ps = true ∧ PyData.depthAll ps ≤ k ∧ PyData.leavesShortAll 13 ps = true ∧ PyData.weightAll ps ≤ ps.length * (w + 1)
  | [], _ => ⟨by simp [PyData.showableAll], by simp [PyData.hasDictAll], by simp [PyData.canLayAll0], by simp [PyData.depthAll], by simp [PyData.leavesShortAll], by simp [PyData.weightAll]⟩
  | p :: ps, h => by
    obtain ⟨h1, h2, h3, h4, h5, h6⟩ := Shw.all fun q hq => h q (List.mem_cons_of_mem _ hq)
    have g := h p List.mem_cons_self
    have g4 := g.dep
    have g6 := g.wt
    refine ⟨by simp [PyData.showableAll, g.sh, h1], by simp [PyData.hasDictAll, g.nd, h2], by simp [PyData.canLayAll0, g.lay, h3], ?_, by simp [PyData.leavesShortAll, g.lv, h5], ?_⟩
    · simp only [PyData.depthAll]; omega
    · simp only [PyData.weightAll, List.length_cons, Nat.succ_mul]; omega
theorem Shw.tup {k w : Nat} {ps : List PyData} (h : ∀ p ∈ ps, Shw k w p) : Shw (k + 1) (ps.length * (w + 1)) (.tuple ps) := by
  obtain ⟨h1, h2, h3, h4, h5, h6⟩ := Shw.all h
  exact ⟨by simp [PyData.showable, h1], by simp [PyData.hasDict, h2], by simp [PyData.canLay0, h3], by simp only [PyData.depth]; omega, by simp [PyData.leavesShort, h5], by simp only [PyData.weight]; exact h6⟩
theorem Shw.lst {k w : Nat} {ps : List PyData} (h : ∀ p ∈ ps, Shw k w p) : Shw (k + 1) (ps.length * (w + 1)) (.list ps) := by
  obtain ⟨h1, h2, h3, h4, h5, h6⟩ := Shw.all h
  exact ⟨by simp [PyData.showable, h1], by simp [PyData.hasDict, h2], by simp [PyData.canLay0, h3], by simp only [PyData.depth]; omega, by simp [PyData.leavesShort, h5], by simp only [PyData.weight]; exact h6⟩
theorem Shw.fits {k w : Nat} {p : PyData} (h : Shw k w p) (hw : w ≤ 2 ^ 20) : p.shown.length ≤ sizeLine := PyData.shown_fits (by decide) (by decide) h.lv (Nat.le_trans h.wt hw)
theorem Shw.shaped {k w : Nat} {p : PyData} (h : Shw k w p) (hk : k ≤ 64) : SeqAt.shaped p = true := by
  have := h.dep
  unfold SeqAt.shaped
  rw [h.lay, Bool.true_and]
  exact decide_eq_true (by omega)
/-- repr of data that can be shown -/
theorem repr_r {x : D} {p : PyData} {M : Mem} {P : AK} {k w : Nat} (h : Shw k w p) (hk : k ≤ 60) (hw : w ≤ 2 ^ 20) (hp : PyR M x p) (hf : flatD x = none ∨ (∃ a, x = .ref a)) (q : P (.str p.shown) M) : ReprA [x] M P :=
  .mk hp hf h.sh h.nd (Nat.le_trans h.dep hk) (h.fits hw) q
mutual
theorem eqv_same : ∀ p : PyData, p.canLay0 = true → PyData.eqv p p = true
  | .none, _ => by simp [PyData.eqv]
  | .bool b, _ => by simp [PyData.eqv]
  | .int i, _ => by simp [PyData.eqv]
  | .str s, _ => by simp [PyData.eqv]
  | .list xs, h => by
    have := eqvAll_same xs (by simpa [PyData.canLay0] using h)
    simpa [PyData.eqv] using this
  | .tuple xs, h => by
    have := eqvAll_same xs (by simpa [PyData.canLay0] using h)
    simpa [PyData.eqv] using this
  | .dict _, h => by simp [PyData.canLay0] at h
theorem eqvAll_same : ∀ ps : List PyData, PyData.canLayAll0 ps = true → PyData.eqvAll ps ps = true
  | [], _ => by simp [PyData.eqvAll]
  | p :: ps, h => by
    have h' : p.canLay0 = true ∧ PyData.canLayAll0 ps = true := by simpa [PyData.canLayAll0] using h
    simp [PyData.eqvAll, eqv_same p h'.1, eqvAll_same ps h'.2]
end
/-- a text in a row of texts -/
theorem in_strs {M : Mem} {x : D} {L : List Str} {n : Str} {P : AK} (hs : SeqR M x (L.map D.str)) (q : P (.bl (decide (n ∈ L))) M) : InA (.str n) x M P := by
  refine InA.seq (vs := L.map V.str) (vx := .str n) hs rfl ?_ rfl ?_
  · clear hs q
    induction L with
    | nil => exact .nil
    | cons a r ih => exact .cons ⟨rfl, rfl⟩ ih
  · have e : inV (.str n) (L.map V.str) = decide (n ∈ L) := by
      clear hs q
      induction L with
      | nil => rfl
      | cons a r ih =>
        simp only [inV, List.map_cons, List.any_cons] at ih ⊢
        rw [ih]
        by_cases h : n = a
        · subst h; simp [eqV]
        · have h' : ¬ a = n := fun z => h z.symm
          simp [eqV, h, h']
    rw [e]; exact q
/-- a truth in a row of truths -/
theorem in_bls {M : Mem} {x : D} {L : List Bool} {n : Bool} {P : AK} (hs : SeqR M x (L.map D.bl)) (q : P (.bl (decide (n ∈ L))) M) : InA (.bl n) x M P := by
  refine InA.seq (vs := L.map V.bl) (vx := .bl n) hs rfl ?_ rfl ?_
  · clear hs q
    induction L with
    | nil => exact .nil
    | cons a r ih => exact .cons ⟨rfl, rfl⟩ ih
  · have e : inV (.bl n) (L.map V.bl) = decide (n ∈ L) := by
      clear hs q
      induction L with
      | nil => rfl
      | cons a r ih =>
        simp only [inV, List.map_cons, List.any_cons] at ih ⊢
        rw [ih]
        by_cases h : n = a
        · subst h; simp [eqV]
        · have h' : ¬ a = n := fun z => h z.symm
          cases n <;> cases a <;> simp_all [eqV]
    rw [e]; exact q
end Ab
set_option maxRecDepth 100000
set_option maxHeartbeats 4000000
/-! Ab24: the head: facts of classes of exceptions besides. -/
namespace Ab
open PySem PySem.Spec L2 PyProof.Rows
/-- a fact more -/
inductive Xa where
  | excC (x : Str)
  | kit1 (x y : Str) (b : Bool)
  | kitn (x : Str) (ys : List Str) (b : Bool)
  | exb (x : Str) (bs : List Value) (new : String)
def excCB (K : PySem.W.Frag) (C : Addr) : Bool :=
  decide (PySem.W.findIn K (.ref C) "__getattribute__" = some (some (.builtin "BaseException.__getattribute__"))) && (decide (PySem.W.findIn K (.ref C) "__getattr__" = some none) &&
  (decide (PySem.W.subIn K (.ref C) (.type "BaseException") = some true) && (PySem.W.hasDictIn K C && (decide (PySem.W.findIn K (.ref C) "__class__" = some (some (.builtin "object.__class__"))) &&
  (decide (PySem.W.specialIn K (.builtin "object.__class__") "__get__" = some (some (.builtin "getset_descriptor.__get__"))) && (decide (PySem.W.takesIn K (.builtin "object.__class__") = some true) && decide (PySem.W.mroIn K C (.type "object") = some true)))))))
theorem excCB_ok {K : PySem.W.Frag} {C : Addr} (h : excCB K C = true) : ExcC K C := by
  obtain ⟨h1, h⟩ := He.ba h
  obtain ⟨h2, h⟩ := He.ba h
  obtain ⟨h3, h⟩ := He.ba h
  obtain ⟨h4, h⟩ := He.ba h
  obtain ⟨h5, h⟩ := He.ba h
  obtain ⟨h6, h⟩ := He.ba h
  obtain ⟨h7, h8⟩ := He.ba h
  exact ⟨of_decide_eq_true h1, of_decide_eq_true h2, of_decide_eq_true h3, h4, of_decide_eq_true h5, of_decide_eq_true h6, of_decide_eq_true h7, of_decide_eq_true h8⟩
def Xa.ok (K : PySem.W.Frag) : Xa → Bool
  | .excC x => excCB K (He.ga K x)
  | .kit1 x y b => decide (PySem.W.kitOne K (.ref (He.ga K x)) (.ref (He.ga K y)) = some b)
  | .kitn x ys b => decide (PySem.W.kitAny K (.ref (He.ga K x)) (ys.map fun y => Value.ref (He.ga K y)) = some b)
  | .exb x bs new => PySem.W.excIn K (He.ga K x) bs new && (PySem.W.keepIn K (.ref (He.ga K x)) && (decide (PySem.W.subIn K (.ref (He.ga K x)) (.type "BaseException") = some true) && decide (PySem.W.typeIn K (.ref (He.ga K x)) = some (.type "type"))))
section
variable {K : PySem.W.Frag}
theorem xexcC {x : Str} (c : (Xa.excC x).ok K = true) : ExcC K (He.ga K x) := excCB_ok c
theorem xkit1 {x y : Str} {b : Bool} (c : (Xa.kit1 x y b).ok K = true) : PySem.W.kitOne K (.ref (He.ga K x)) (.ref (He.ga K y)) = some b := of_decide_eq_true c
theorem xkitn {x : Str} {ys : List Str} {b : Bool} (c : (Xa.kitn x ys b).ok K = true) : PySem.W.kitAny K (.ref (He.ga K x)) (ys.map fun y => Value.ref (He.ga K y)) = some b := of_decide_eq_true c
theorem xexb {x : Str} {bs : List Value} {new : String} (c : (Xa.exb x bs new).ok K = true) : PySem.W.excIn K (He.ga K x) bs new = true ∧ PySem.W.keepIn K (.ref (He.ga K x)) = true ∧ PySem.W.subIn K (.ref (He.ga K x)) (.type "BaseException") = some true ∧
    PySem.W.typeIn K (.ref (He.ga K x)) = some (.type "type") := by
  obtain ⟨c1, c⟩ := He.ba c
  obtain ⟨c2, c⟩ := He.ba c
  obtain ⟨c3, c4⟩ := He.ba c
  exact ⟨c1, c2, of_decide_eq_true c3, of_decide_eq_true c4⟩
end
abbrev AlX : Type := Bool × He.AlD
def obsX (xs : List Xa) (fa : List He.Fa) (fn : List He.DefD) (K : PySem.W.Frag) : AlX := (xs.all fun x => x.ok K, He.obsD fa fn K)
def valX (fn : List He.DefD) : AlX := (true, He.valD fn)
def obsXG (n : Nat) (xs : List Xa) (fa : List He.Fa) (fn : List He.DefD) (g : Addr → Option Obj) : AlX := obsX xs fa fn (He.frG g (He.asD g n))
def hookX (n : Nat) (xs : List Xa) (fa : List He.Fa) (fn : List He.DefD) : PySem.W.Hook where
  α := AlX
  obs := fun s => obsXG n xs fa fn s.heap.get?
  val := fun _ => valX fn
  says := fun _ h => ∃ K : PySem.W.Frag, K.In h ∧ (xs.all fun x => x.ok K) = true ∧ He.SaysD fa fn K
  of := fun _ _ e => ⟨_, He.frG_in, congrArg (fun z : AlX => z.1) e, congrArg (fun z : AlX => z.2) e⟩
  keeps := fun _ _ _ ⟨K, hK, c⟩ k => ⟨K, PySem.W.Frag.In.keeps hK k, c⟩
theorem obsXG_eq {n : Nat} {xs : List Xa} {fa : List He.Fa} {fn : List He.DefD} {g : Addr → Option Obj} {s : Shared} (h : ∀ a, g a = s.heap.get? a) : obsXG n xs fa fn g = (hookX n xs fa fn).obs s := by
  have e : g = s.heap.get? := funext h
  rw [e] <;> rfl
theorem xat {xs : List Xa} {K : PySem.W.Frag} (c : (xs.all fun x => x.ok K) = true) (i : Nat) {x : Xa} (h : xs[i]? = some x := by rfl) : x.ok K = true := List.all_eq_true.mp c x (List.mem_of_getElem? h)
/-- the law's own call: the script is read alone -/
theorem law_sp {K : PySem.W.Frag} {H : Hp} {a : Addr} {ns : List Int} {S : ASp} (hS : SqL K H a (ns.map V.int)) (h : S [.lsk (ns.map D.int)] [] (fun d _ => d = .bl true) (fun _ _ => False)) : spOf K S [.ref a] H (fun v _ => v = .bl true) fun _ _ _ => False := by
  have dvI : ∀ ns : List Int, DVs K H (um [] []) (ns.map V.int) (ns.map D.int) := fun ns => by
    induction ns with
    | nil => exact .nil
    | cons i r ih => exact .cons (.int i) ih
  refine ⟨[], _, [], _, _, .cons ?_ .nil, ⟨List.nodup_nil, fun p hp => by (cases hp), fun b hb => by (cases hb)⟩, h, fun v d M' H' _ _ dv e => ?_, fun _ _ _ _ _ _ _ _ q => q⟩
  · rcases hS with q | q
    · exact .lsk q (by simp [um, dom]) (dvI ns)
    · exact .lskK (fun H' => Or.inr q) (dvI ns)
  · subst e
    cases dv
    rfl
end Ab
set_option maxRecDepth 100000
set_option maxHeartbeats 0
namespace K78a
open PySem PySem.Spec L2 PyProof.Rows Ab
def topS (i : Nat) : Stmt := PySem.Challenge.pw_countfold_k78_shares.main.body.getD i (.Pass ⟨0, 0, 0, 0⟩)
abbrev veB : List Value := [.type "ValueError", .type "Exception", .type "BaseException", .type "object"]
abbrev leB : List Value := [.type "LookupError", .type "Exception", .type "BaseException", .type "object"]
def d_is_whole : He.DefD := ⟨("is_whole", none), "is_whole", "is_whole", defArgs (topS 12), defBody (topS 12), defScope (topS 12), [], [("least", .non), ("most", .non)]⟩
def d_is_name : He.DefD := ⟨("is_name", none), "is_name", "is_name", defArgs (topS 13), defBody (topS 13), defScope (topS 13), [], []⟩
def d_are_names : He.DefD := ⟨("are_names", none), "are_names", "are_names", defArgs (topS 14), defBody (topS 14), defScope (topS 14), [], []⟩
def d_shared_out : He.DefD := ⟨("shared_out", none), "shared_out", "shared_out", defArgs (topS 16), defBody (topS 16), defScope (topS 16), [], []⟩
def d_Talk_init : He.DefD := ⟨("Talk", some "__init__"), "__init__", "Talk.__init__", defArgs (inClass (topS 21) 0), defBody (inClass (topS 21) 0), defScope (inClass (topS 21) 0), [.adr (He.dflAt ("Talk", some "__init__") 0), .adr (He.dflAt ("Talk", some "__init__") 1)], [("most", .int 12)]⟩
def d_Talk_sets : He.DefD := ⟨("Talk", some "sets"), "sets", "Talk.sets", defArgs (inClass (topS 21) 1), defBody (inClass (topS 21) 1), defScope (inClass (topS 21) 1), [], []⟩
def d_Talk_numbers : He.DefD := ⟨("Talk", some "numbers"), "numbers", "Talk.numbers", defArgs (inClass (topS 21) 2), defBody (inClass (topS 21) 2), defScope (inClass (topS 21) 2), [], []⟩
def d_Talk_most : He.DefD := ⟨("Talk", some "most"), "most", "Talk.most", defArgs (inClass (topS 21) 3), defBody (inClass (topS 21) 3), defScope (inClass (topS 21) 3), [], []⟩
def d_Talk_regions : He.DefD := ⟨("Talk", some "regions"), "regions", "Talk.regions", defArgs (inClass (topS 21) 4), defBody (inClass (topS 21) 4), defScope (inClass (topS 21) 4), [], []⟩
def d_Talk_need_region : He.DefD := ⟨("Talk", some "need_region"), "need_region", "Talk.need_region", defArgs (inClass (topS 21) 5), defBody (inClass (topS 21) 5), defScope (inClass (topS 21) 5), [], []⟩
def d_Talk_wider : He.DefD := ⟨("Talk", some "wider"), "wider", "Talk.wider", defArgs (inClass (topS 21) 8), defBody (inClass (topS 21) 8), defScope (inClass (topS 21) 8), [], []⟩
def d_Talk_halves : He.DefD := ⟨("Talk", some "halves"), "halves", "Talk.halves", defArgs (inClass (topS 21) 9), defBody (inClass (topS 21) 9), defScope (inClass (topS 21) 9), [], []⟩
def d_is_world : He.DefD := ⟨("is_world", none), "is_world", "is_world", defArgs (topS 23), defBody (topS 23), defScope (topS 23), [], []⟩
def d_shares : He.DefD := ⟨("shares", none), "shares", "shares", defArgs (topS 17), defBody (topS 17), defScope (topS 17), [], []⟩
def d_l_pool : He.DefD := ⟨("_law_pool", none), "_law_pool", "_law_pool", defArgs (topS 25), defBody (topS 25), defScope (topS 25), [], []⟩
def d_l_take : He.DefD := ⟨("_law_take", none), "_law_take", "_law_take", defArgs (topS 26), defBody (topS 26), defScope (topS 26), [], []⟩
def d_l_names : He.DefD := ⟨("_law_names", none), "_law_names", "_law_names", defArgs (topS 28), defBody (topS 28), defScope (topS 28), [], []⟩
def d_l_tongue : He.DefD := ⟨("_law_tongue", none), "_law_tongue", "_law_tongue", defArgs (topS 29), defBody (topS 29), defScope (topS 29), [], []⟩
def d_l_odd : He.DefD := ⟨("_law_odd", none), "_law_odd", "_law_odd", defArgs (topS 30), defBody (topS 30), defScope (topS 30), [], []⟩
def d_l_bent : He.DefD := ⟨("_law_bent", none), "_law_bent", "_law_bent", defArgs (topS 31), defBody (topS 31), defScope (topS 31), [], []⟩
def d_l_lies : He.DefD := ⟨("_law_lies", none), "_law_lies", "_law_lies", defArgs (topS 32), defBody (topS 32), defScope (topS 32), [], []⟩
def d_l_is_name : He.DefD := ⟨("_law_is_name", none), "_law_is_name", "_law_is_name", defArgs (topS 33), defBody (topS 33), defScope (topS 33), [], []⟩
def d_l_fresh : He.DefD := ⟨("_law_fresh", none), "_law_fresh", "_law_fresh", defArgs (topS 34), defBody (topS 34), defScope (topS 34), [], []⟩
def d_l_few : He.DefD := ⟨("_law_few", none), "_law_few", "_law_few", defArgs (topS 35), defBody (topS 35), defScope (topS 35), [], []⟩
def d_l_shares : He.DefD := ⟨("_law_shares", none), "_law_shares", "_law_shares", defArgs (topS 36), defBody (topS 36), defScope (topS 36), [], []⟩
def d_l_refused : He.DefD := ⟨("_law_refused", none), "_law_refused", "_law_refused", defArgs (topS 37), defBody (topS 37), defScope (topS 37), [], []⟩
def d_law : He.DefD := ⟨("law", none), "law", "law", defArgs (topS 38), defBody (topS 38), defScope (topS 38), [], []⟩
def fn : List He.DefD := [d_is_whole, d_is_name, d_are_names, d_shared_out, d_Talk_init, d_Talk_sets, d_Talk_numbers, d_Talk_most, d_Talk_regions, d_Talk_need_region, d_Talk_wider, d_Talk_halves, d_is_world, d_shares, d_l_pool, d_l_take, d_l_names, d_l_tongue, d_l_odd, d_l_bent, d_l_lies, d_l_is_name, d_l_fresh, d_l_few, d_l_shares, d_l_refused, d_law]
abbrev fa0 : List He.Fa := [.free "all", .free "any", .free "bool", .free "enumerate", .free "int", .free "isinstance", .free "len", .free "list", .free "max", .free "min", .free "range", .free "repr", .free "sorted", .free "str", .free "sum", .free "tuple", .free "zip", .str "LETTERS" "abcdefghijklmnopqrstuvwxyz", .int "LONGEST" 8, .int "MOST_NUMBERS" 2, .int "MOST_SETS" 3, .glo "FoldError", .glo "NoSaying", .glo "NoTalk", .glo "NoWorld", .glo "Talk", .cls "Talk", .noat "Talk" "number_names", .noat "Talk" "set_names", .noat "Talk" "top"]
abbrev fa1 : List He.Fa := [.exm "NoTalk" "FoldError" true, .glo "law", .glo "is_whole", .glo "is_name", .glo "are_names", .glo "shared_out", .mkr "Talk", .meth "Talk" "sets", .meth "Talk" "numbers", .meth "Talk" "most", .meth "Talk" "regions", .meth "Talk" "need_region", .meth "Talk" "wider", .meth "Talk" "halves", .glo "is_world", .glo "shares", .glo "_law_pool", .glo "_law_take", .glo "_law_names", .glo "_law_tongue", .glo "_law_odd", .glo "_law_bent", .glo "_law_lies", .glo "_law_is_name", .glo "_law_fresh", .glo "_law_few", .glo "_law_shares", .glo "_law_refused"]
abbrev fa : List He.Fa := fa0 ++ fa1
def xs : List Xa := [.exb "NoTalk" veB "ValueError.__new__", .excC "NoTalk", .kitn "NoTalk" ["NoSaying", "NoWorld"] false, .kit1 "NoTalk" "NoTalk" true, .kitn "NoTalk" ["NoTalk"] true]
abbrev R : PySem.W.OpenRow := PySem.W.OpenLaw.row PySem.Challenge.rw_countfold_k78_shares
abbrev hk : PySem.W.Hook := hookX 5 xs fa fn
def ob (s : PySem.W.SharedT) : AlX := obsXG 5 xs fa fn (HandSHeadRun.getT s)
theorem ob_eq (s : PySem.W.SharedT) : ob s = hk.obs s.abs := obsXG_eq (HandSHeadRun.getT_eq s)
def loose0 : List PySem.Str := ["_wall", "FoldError", "NoTalk", "NoWorld", "NoSaying", "LackError", "NoRegion", "MOST", "LETTERS", "LONGEST", "is_whole", "is_name", "are_names", "shared_out", "shares", "MOST_SETS", "MOST_NUMBERS", "Talk", "is_world", "_law_pool", "_law_take", "_law_great", "_law_names", "_law_tongue", "_law_odd", "_law_bent", "_law_lies", "_law_is_name", "_law_fresh", "_law_few"]
def loose1 : List PySem.Str := ["_law_shares", "_law_refused"]
def loose : List PySem.Str := loose0 ++ loose1
theorem run (w : World) : HandSHeadRun.RunEq R (PySem.W.view R.prog [38]) hk ob 4000 loose w := by
  intro os
  kernel_rfl
end K78a
set_option maxRecDepth 100000
set_option maxHeartbeats 4000000
namespace K78a
open PySem L2 PyProof.Rows Ab
structure Ad where
  FoldError : Addr
  NoSaying : Addr
  NoTalk : Addr
  NoWorld : Addr
  Talk : Addr
def isxTab (a : Ad) : List (Addr × List Addr × Bool) := [(a.NoTalk, [a.NoTalk], true), (a.NoTalk, [a.NoSaying, a.NoWorld], false)]
structure Fx (P : Program) (w : World) (K : PySem.W.Frag) (mg : Str → Option Value) (a : Ad) : Prop where
  b_all : mg "all" = none
  b_any : mg "any" = none
  b_bool : mg "bool" = none
  b_enumerate : mg "enumerate" = none
  b_int : mg "int" = none
  b_isinstance : mg "isinstance" = none
  b_len : mg "len" = none
  b_list : mg "list" = none
  b_max : mg "max" = none
  b_min : mg "min" = none
  b_range : mg "range" = none
  b_repr : mg "repr" = none
  b_sorted : mg "sorted" = none
  b_str : mg "str" = none
  b_sum : mg "sum" = none
  b_tuple : mg "tuple" = none
  b_zip : mg "zip" = none
  c_LETTERS : ∃ t, mg "LETTERS" = some (.str "abcdefghijklmnopqrstuvwxyz" t)
  c_LONGEST : ∃ t, mg "LONGEST" = some (.int 8 t)
  c_MOST_NUMBERS : ∃ t, mg "MOST_NUMBERS" = some (.int 2 t)
  c_MOST_SETS : ∃ t, mg "MOST_SETS" = some (.int 3 t)
  g_FoldError : mg "FoldError" = some (.ref a.FoldError)
  g_NoSaying : mg "NoSaying" = some (.ref a.NoSaying)
  g_NoTalk : mg "NoTalk" = some (.ref a.NoTalk)
  g_NoWorld : mg "NoWorld" = some (.ref a.NoWorld)
  g_Talk : mg "Talk" = some (.ref a.Talk)
  k_Talk : Cls K a.Talk
  n_Talk_number_names : NoAttr K a.Talk "number_names"
  n_Talk_set_names : NoAttr K a.Talk "set_names"
  n_Talk_top : NoAttr K a.Talk "top"
  x_NoTalk : PySem.W.excIn K a.NoTalk veB "ValueError.__new__" = true
  p_NoTalk : PySem.W.keepIn K (.ref a.NoTalk) = true
  e_NoTalk : PySem.W.subIn K (.ref a.NoTalk) (.type "BaseException") = some true
  t_NoTalk : PySem.W.typeIn K (.ref a.NoTalk) = some (.type "type")
  ty_FoldError : ∀ C ∈ [a.NoTalk], PySem.W.exmOne K (.ref C) (.ref a.FoldError) = some true
  tn_FoldError : ∀ C ∈ ([] : List Addr), PySem.W.exmOne K (.ref C) (.ref a.FoldError) = some false
  isx : ∀ t ∈ isxTab a, ExcC K t.1 ∧ PySem.W.kitAny K (.ref t.1) (t.2.1.map Value.ref) = some t.2.2
  isx1 : ∀ t ∈ isxTab a, ∀ c, t.2.1 = [c] → PySem.W.kitOne K (.ref t.1) (.ref c) = some t.2.2

/-! what the defs of the law do, over data -/
def oD : Option Int → D
  | none => .non
  | some i => .int i
/-- a name: one to eight letters -/
def namB (s : Str) : Bool := decide (1 ≤ s.length) && (decide (s.length ≤ 8) && s.cps.toList.all fun c => decide (97 ≤ c ∧ c ≤ 122))
def namD : D → Bool
  | .str s => namB s
  | _ => false
/-- what is tried as a name -/
def Odd : D → Prop
  | .str s => s.length ≤ 100000 ∧ s.cps.toList.all (fun c => decide (c < 55296)) = true
  | .non | .bl _ | .int _ | .tup _ | .lst _ | .dic _ => True
  | _ => False
def ltS (a b : Str) : Bool := decide (a.cps.toList < b.cps.toList)
def leS (a b : Str) : Bool := !ltS b a
def incB : List Str → Bool
  | [] => true
  | [_] => true
  | a :: b :: r => ltS a b && incB (b :: r)
def areB (S : List Str) (many : Int) : Bool := decide ((S.length : Int) ≤ many) && (S.all namB && incB S)
def talkOk (S N : List Str) (t : Int) : Bool := areB S 3 && areB N 2 && !(N.any fun n => decide (n ∈ S)) && decide (1 ≤ t)
def srtS (l : List Str) : List Str := l.mergeSort leS
def Tp (d : D) (S : List Str) : Prop := d = .tup (S.map D.str) ∨ d = .tpn (S.map D.str)
def Small (S : List Str) : Prop := S.length ≤ 30 ∧ ∀ s ∈ S, s.length ≤ 1000 ∧ s.cps.toList.all (fun c => decide (c < 55296)) = true
def Small2 (S : List Str) : Prop := S.length ≤ 50 ∧ ∀ s ∈ S, s.length ≤ 1000 ∧ s.cps.toList.all (fun c => decide (c < 55296)) = true
def talkF (sx : D) (N : List Str) (t : Int) : List (Str × D) := [("set_names", sx), ("number_names", .tup (N.map D.str)), ("top", .int t)]
def TalkD (a : Ad) (sx : D) (N : List Str) (t : Int) : D := .obj a.Talk (talkF sx N t)
def widB (S N : List Str) (t : Int) : D → Bool
  | .str s => namB s && talkOk (srtS (S ++ [s])) N t
  | _ => false
def widT (S : List Str) : D → List Str
  | .str s => srtS (S ++ [s])
  | _ => S
def isD (ns : List Int) : D := .tup (ns.map D.int)
def sp_is_whole (a : Ad) : ASp := fun ds M P _ => ∃ (i : Int) (lo hi : Option Int), ds = [.int i, oD lo, oD hi] ∧ M = [] ∧ P (.bl (lo.all (fun l => decide (l ≤ i)) && hi.all (fun h => decide (i ≤ h)))) []
def sp_is_name (a : Ad) : ASp := fun ds M P _ => ∃ d, ds = [d] ∧ M = [] ∧ Odd d ∧ P (.bl (namD d)) []
def sp_are_names (a : Ad) : ASp := fun ds M P _ => ∃ (x : D) (S : List Str) (many : Int), ds = [x, .int many] ∧ Tp x S ∧ M = [] ∧ Small2 S ∧ P (.bl (areB S many)) []
def sp_shared_out (a : Ad) : ASp := fun ds M P _ => ∃ (row : List Int) (h0 h1 : Nat) (c n : Int), ds = [.lst (row.map D.int), .tup [.int h0, .int h1], .int c, .int n] ∧ M = [] ∧ h0 < row.length ∧ h1 < row.length ∧
  P (.lst (((row.set h0 (c - n)).set h1 n).map D.int)) []
def sp_Talk_init (a : Ad) : ASp := fun ds M P EX => ∃ (x : Addr) (sx : D) (S N : List Str) (t : Int), ds = [.ref x, sx, .tup (N.map D.str), .int t] ∧ Tp sx S ∧ M = [(x, .ins a.Talk [])] ∧ Small2 S ∧ Small2 N ∧
  (talkOk S N t = true → P .non [(x, .ins a.Talk (talkF sx N t))]) ∧ (talkOk S N t = false → EX ⟨a.NoTalk, none⟩ [(x, .ins a.Talk [])])
def sp_Talk_sets (a : Ad) : ASp := fun ds M P _ => ∃ (sx : D) (N : List Str) (t : Int), ds = [TalkD a sx N t] ∧ M = [] ∧ P sx []
def sp_Talk_numbers (a : Ad) : ASp := fun ds M P _ => ∃ (sx : D) (N : List Str) (t : Int), ds = [TalkD a sx N t] ∧ M = [] ∧ P (.tup (N.map D.str)) []
def sp_Talk_most (a : Ad) : ASp := fun ds M P _ => ∃ (sx : D) (N : List Str) (t : Int), ds = [TalkD a sx N t] ∧ M = [] ∧ P (.int t) []
def sp_Talk_regions (a : Ad) : ASp := fun ds M P _ => ∃ (sx : D) (S N : List Str) (t : Int), ds = [TalkD a sx N t] ∧ Tp sx S ∧ S.length ≤ 1000 ∧ M = [] ∧ P (.int (2 ^ S.length)) []
def sp_Talk_need_region (a : Ad) : ASp := fun ds M P _ => ∃ (sx : D) (S N : List Str) (t r : Int), ds = [TalkD a sx N t, .int r] ∧ Tp sx S ∧ S.length ≤ 1000 ∧ M = [] ∧ 0 ≤ r ∧ r < 2 ^ S.length ∧ P .non []
def sp_Talk_wider (a : Ad) : ASp := fun ds M P EX => ∃ (sx : D) (S N : List Str) (t : Int) (d : D), ds = [TalkD a sx N t, d] ∧ Tp sx S ∧ Small S ∧ Small N ∧ Odd d ∧ M = [] ∧
  (widB S N t d = true → P (TalkD a (.tpn ((widT S d).map D.str)) N t) []) ∧ (widB S N t d = false → EX ⟨a.NoTalk, none⟩ [])
/-- a region's two halves where a set comes at place j -/
def lowI (r : Int) (j : Nat) : Int := (r - r % 2 ^ j) * 2 + r % 2 ^ j
def sp_Talk_halves (a : Ad) : ASp := fun ds M P _ => ∃ (sx : D) (S N : List Str) (t r : Int) (s : Str) (j : Nat), ds = [TalkD a sx N t, .int r, .str s] ∧ Tp sx S ∧ Small S ∧ Small N ∧ Odd (.str s) ∧ M = [] ∧ widB S N t (.str s) = true ∧
  (srtS (S ++ [s]))[j]? = some s ∧ (∀ m, m < j → (srtS (S ++ [s]))[m]? ≠ some s) ∧ 0 ≤ r ∧ r < 2 ^ S.length ∧ P (.tup [.int (lowI r j), .int (lowI r j + 2 ^ j)]) []
def sp_is_world (a : Ad) : ASp := fun ds M P _ => ∃ (sx : D) (S N : List Str) (t : Int) (cs vs : List Int), ds = [TalkD a sx N t, .tup [isD cs, isD vs]] ∧ Tp sx S ∧ S.length ≤ 1000 ∧ M = [] ∧ cs.length = 2 ^ S.length ∧ vs.length = N.length ∧
  cs.length ≤ 10000 ∧ vs.length ≤ 10000 ∧ (∀ c ∈ cs, 0 ≤ c) ∧ (∀ v ∈ vs, 0 ≤ v ∧ v ≤ t) ∧ cs.sum ≤ t ∧ P (.bl true) []
/-- the rows as the program makes them: region by region, row by row -/
def rowsP (j : Nat) : Nat → List Int → List (List Int) → List (List Int)
  | _, [], rows => rows
  | r, c :: cs, rows => rowsP j (r + 1) cs (rows.flatMap fun row => (List.range (c.toNat + 1)).map fun (i : Nat) => (row.set (lowI r j).toNat (c - (i : Int))).set (lowI r j + 2 ^ j).toNat (i : Int))
def shItem (vs : List Int) (row : List Int) : D × PyData := (.tup [isD row, isD vs], .tuple [.tuple (row.map PyData.int), .tuple (vs.map PyData.int)])
def shD (n j : Nat) (cs vs : List Int) : List D := sortD ((rowsP j 0 cs [List.replicate n 0]).map (shItem vs))
def sp_shares (a : Ad) : ASp := fun ds M P EX => ∃ (sx : D) (S N : List Str) (t : Int) (cs vs : List Int) (d : D), ds = [TalkD a sx N t, .tup [isD cs, isD vs], d] ∧ Tp sx S ∧ Small S ∧ Small N ∧ Odd d ∧ M = [] ∧
  (widB S N t d = false → EX ⟨a.NoTalk, none⟩ []) ∧
  ∀ s, d = .str s → widB S N t d = true → ∃ j : Nat, S.length ≤ 2 ∧ cs.length = 2 ^ S.length ∧ (∀ c ∈ cs, 0 ≤ c) ∧ cs.sum ≤ 5 ∧ s.length ≤ 1000 ∧ (srtS (S ++ [s]))[j]? = some s ∧ (∀ m, m < j → (srtS (S ++ [s]))[m]? ≠ some s) ∧
    ∀ q, P (.ref q) [(q, .lst (shD (2 ^ (S.length + 1)) j cs vs))]
/-- the pool: a digit's rest, a cell mixed, a turn -/
def Pool (B : Int) (l : List D) : Prop := ∃ x c t : Int, l = [.int x, .int c, .int t] ∧ 0 ≤ c ∧ c < 1000000007 ∧ 0 ≤ t ∧ t ≤ B ∧ B ≤ 1000000
def sp_l_pool (a : Ad) : ASp := fun ds M P _ => ∃ (ns : List Int) (k : Int), ds = [.lsk (ns.map D.int), .int k] ∧ M = [] ∧ 0 ≤ k ∧ k ≤ 50 ∧ ∀ q l, Pool (7919 * k + 1) l → P (.ref q) [(q, .lst l)]
/-- take: a number from 0 below many; the pool is turned on by one at most -/
def sp_l_take (a : Ad) : ASp := fun ds M P _ => ∃ (p : Addr) (l : List D) (B m : Int), ds = [.ref p, .int m] ∧ M = [(p, .lst l)] ∧ Pool B l ∧ B < 1000000 ∧ 0 < m ∧ m ≤ 1000000 ∧
  ∀ (r : Int) (l' : List D), 0 ≤ r → r < m → Pool (B + 1) l' → P (.int r) [(p, .lst l')]
def sp_l_names (a : Ad) : ASp := fun ds M P _ => ∃ (p : Addr) (l : List D) (B : Int) (n : Nat), ds = [.ref p, .int n] ∧ M = [(p, .lst l)] ∧ Pool B l ∧ B < 900000 ∧ n ≤ 20 ∧
  ∀ (ns : List Str) (l' : List D), ns.length = n → ns.Nodup → (∀ s ∈ ns, namB s = true) → Pool (B + 300) l' → P (.lst (ns.map D.str)) [(p, .lst l')]
/-- a tongue: set names, number names; sorted, all of them names, no two alike -/
def Tongue (S N : List Str) : Prop := S.length ≤ 3 ∧ N.length ≤ 2 ∧ (∀ s ∈ S, namB s = true) ∧ (∀ s ∈ N, namB s = true) ∧ incB S = true ∧ incB N = true ∧ ∀ n ∈ N, n ∉ S
def tonD (S N : List Str) : D := .tup [.tpn (S.map D.str), .tpn (N.map D.str)]
def sp_l_tongue (a : Ad) : ASp := fun ds M P _ => ∃ (p : Addr) (l : List D) (B : Int), ds = [.ref p, .int 3, .int 2] ∧ M = [(p, .lst l)] ∧ Pool B l ∧ B < 800000 ∧
  ∀ (S N : List Str) (l' : List D), Tongue S N → Pool (B + 400) l' → P (tonD S N) [(p, .lst l')]
def sp_l_odd (a : Ad) : ASp := fun ds M P _ => ∃ (p : Addr) (l : List D) (B : Int), ds = [.ref p] ∧ M = [(p, .lst l)] ∧ Pool B l ∧ B < 900000 ∧ ∀ (d : D) (l' : List D), Odd d → (∀ s, d = .str s → s.length ≤ 1000) → Pool (B + 1) l' → P d [(p, .lst l')]
def sp_l_bent (a : Ad) : ASp := fun ds M P _ => ∃ (p : Addr) (l : List D) (B : Int) (s : Str), ds = [.ref p, .str s, .int 1] ∧ M = [(p, .lst l)] ∧ Pool B l ∧ B < 800000 ∧ 1 ≤ s.length ∧ s.length ≤ 8 ∧ (∀ c ∈ s.cps.toList, c < 55296) ∧
  ∀ (d : D) (l' : List D), Odd d → (∀ s, d = .str s → s.length ≤ 1000) → Pool (B + 10) l' → P d [(p, .lst l')]
/-- the law's own word for a set's holding a region -/
def lieB : List Str → Int → Str → Bool
  | [], _, _ => false
  | o :: r, b, s => if o = s then decide (b % 2 = 1) else lieB r (b / 2) s
def sp_l_lies (a : Ad) : ASp := fun ds M P _ => ∃ (G : List Str) (r : Int) (s : Str), ds = [.tup (G.map D.str), .int r, .str s] ∧ M = [] ∧ P (.bl (lieB G r s)) []
def sp_l_is_name (a : Ad) : ASp := fun ds M P _ => ∃ d, ds = [d] ∧ M = [] ∧ Odd d ∧ P (.bl (namD d)) []
def sp_l_fresh (a : Ad) : ASp := fun ds M P _ => ∃ (p : Addr) (l : List D) (B : Int) (S N : List Str), ds = [.ref p, tonD S N] ∧ M = [(p, .lst l)] ∧ Pool B l ∧ B < 800000 ∧ Tongue S N ∧
  ∀ (s : Str) (l' : List D), namB s = true → s ∉ S → s ∉ N → Pool (B + 300) l' → P (.str s) [(p, .lst l')]
def sp_l_few (a : Ad) : ASp := fun ds M P _ => ∃ (p : Addr) (l : List D) (B t : Int) (S N : List Str), ds = [.ref p, tonD S N, .int 5, .int t] ∧ M = [(p, .lst l)] ∧ Pool B l ∧ B < 800000 ∧ Tongue S N ∧ 0 ≤ t ∧ t ≤ 1000 ∧
  ∀ (cs vs : List Int) (l' : List D), cs.length = 2 ^ S.length → vs.length = N.length → (∀ c ∈ cs, 0 ≤ c) → cs.sum ≤ 5 → (∀ v ∈ vs, 0 ≤ v ∧ v ≤ t) → Pool (B + 100) l' → P (.tup [isD cs, isD vs]) [(p, .lst l')]
/-- the law's rows: for each region the regions of the wide tongue that hold what it holds -/
def spotsL (G W : List Str) (n r : Nat) : List Nat := (List.range n).filter fun (o : Nat) => G.all fun g => lieB W (o : Int) g == lieB G (r : Int) g
def rowsL (G W : List Str) (n : Nat) : Nat → List Int → List (List Int) → List (List Int)
  | _, [], rows => rows
  | r, c :: cs, rows => rowsL G W n (r + 1) cs ((List.range (c.toNat + 1)).flatMap fun (i : Nat) => rows.map fun row => (row.set ((spotsL G W n r).getD 0 0) (c - (i : Int))).set ((spotsL G W n r).getD 1 0) (i : Int))
def rwItem (row : List Int) : D × PyData := (isD row, .tuple (row.map PyData.int))
def lawD (G : List Str) (s : Str) (cs : List Int) : List D := sortD ((rowsL G (srtS (G ++ [s])) (2 * cs.length) 0 cs [List.replicate (2 * cs.length) 0]).map rwItem)
def sp_l_shares (a : Ad) : ASp := fun ds M P _ => ∃ (G : List Str) (s : Str) (cs : List Int), ds = [.tup (G.map D.str), isD cs, .str s] ∧ M = [] ∧ Small G ∧ s.length ≤ 1000 ∧ G.length ≤ 2 ∧ cs.length = 2 ^ G.length ∧ (∀ c ∈ cs, 0 ≤ c) ∧ cs.sum ≤ 5 ∧
  (∀ r, r < cs.length → 2 ≤ (spotsL G (srtS (G ++ [s])) (2 * cs.length) r).length) ∧ P (.lst (lawD G s cs)) []
def sp_l_refused (a : Ad) : ASp := fun ds M P _ => ∃ (sx : D) (S N : List Str) (t : Int) (cs vs : List Int) (d : D), ds = [TalkD a sx N t, .tup [isD cs, isD vs], d] ∧ Tp sx S ∧ Small S ∧ Small N ∧ Odd d ∧ M = [] ∧ (∀ s, d = .str s → s.length ≤ 1000) ∧
  cs.length = 2 ^ S.length ∧ (∀ c ∈ cs, 0 ≤ c) ∧ cs.sum ≤ 5 ∧ P (.bl (!widB S N t d)) []
def sp_law (a : Ad) : ASp := fun ds M P _ => ∃ ns : List Int, ds = [.lsk (ns.map D.int)] ∧ M = [] ∧ P (.bl true) []

section
variable {P : Program} {w : World} {K : PySem.W.Frag} {mg : Str → Option Value} {base : Heap} {a : Ad}
--@ is_whole
abbrev s_is_whole : Stmt := topS 12
abbrev N_is_whole : List Str := ["thing", "least", "most"]
theorem sc_is_whole : FnScope N_is_whole ["thing", "least", "most"] (defScope s_is_whole) := ⟨rfl, rfl, rfl, by decide +kernel, rfl, by decide +kernel, by decide +kernel⟩
def t_is_whole (a : Ad) : AS :=
  (aSeq (aIfS (aOr (aNot (aTru (aCB IsiA (aCons (aVar 0) (aCons (aC (.ty "int")) aNil))))) (aTru (aCB IsiA (aCons (aVar 0) (aCons (aC (.ty "bool")) aNil)))))
  (aRet (aC (.bl false)))
  aNext)
  (aSeq (aIfS (aAnd (aB (aBin IsNotA (aVar 1) (aC .non))) (aB (aBin LtA (aVar 0) (aVar 1))))
  (aRet (aC (.bl false)))
  aNext)
  (aRet (aOrV (aBin IsA (aVar 2) (aC .non)) (aBin LeA (aVar 0) (aVar 2))))))
theorem den_is_whole (F : Fx P w K mg a)
    {f : Addr} {cdv : Value} {A : Around} {outer : List Env} {s : Shared} {H : Hp} {E : XK} (hr : Room 0 (A.deeper (envOfC "is_whole" (defScope s_is_whole) s.heap.objs.size f cdv))) :
    DenB (cxOf (L2.CX P w) P w K mg base N_is_whole "is_whole" (defScope s_is_whole) f cdv A outer s H E) (defBody s_is_whole) (t_is_whole a) :=
  (db_cons (ds_if (DenW.t (dw_or (dt_not (dt_tru (de_cb okc_isi F.b_isinstance boot_isinstance (da_cons (de_var 0) (da_cons (de_bltn (d := .ty "int") (v := .ty "int") F.b_int boot_int rfl) da_nil))))) (dw_or1 (dt_tru (de_cb okc_isi F.b_isinstance boot_isinstance (da_cons (de_var 0) (da_cons (de_bltn (d := .ty "bool") (v := .ty "bool") F.b_bool boot_bool rfl) da_nil))))))) (db_one (ds_ret de_bl)) db_nil)
  (db_cons (ds_if (DenW.t (dw_and (dt_cmp ok_isnot (de_var 1) de_non) (dw_and1 (dt_cmp ok_lt (de_var 0) (de_var 1))))) (db_one (ds_ret de_bl)) db_nil)
  (db_one (ds_ret (de_or (de_cmp ok_is (de_var 2) de_non) (de_one (de_cmp ok_le (de_var 0) (de_var 2))))))))
--@ is_name
abbrev s_is_name : Stmt := topS 13
abbrev N_is_name : List Str := ["thing", "letter"]
theorem sc_is_name : FnScope N_is_name ["thing"] (defScope s_is_name) := ⟨rfl, rfl, rfl, by decide +kernel, rfl, by decide +kernel, by decide +kernel⟩
def t_is_name (a : Ad) : AS :=
  (aSeq (aIfS (aOr (aNot (aTru (aCB IsiA (aCons (aVar 0) (aCons (aC (.ty "str")) aNil))))) (aNot (aB (aChain LeA LeA (aC (.int 1)) (aCB LenA (aCons (aVar 0) aNil)) (aC (.int 8))))))
  (aRet (aC (.bl false)))
  aNext)
  (aRet (aCB AllA (aCons (aLcL [1] (iStrA (aVar 0)) (gNameA 1) aYes (aBin InA (aVar 1) (aC (.str "abcdefghijklmnopqrstuvwxyz"))) rFro) aNil))))
theorem den_is_name (F : Fx P w K mg a)
    {f : Addr} {cdv : Value} {A : Around} {outer : List Env} {s : Shared} {H : Hp} {E : XK} (hr : Room 0 (A.deeper (envOfC "is_name" (defScope s_is_name) s.heap.objs.size f cdv))) :
    DenB (cxOf (L2.CX P w) P w K mg base N_is_name "is_name" (defScope s_is_name) f cdv A outer s H E) (defBody s_is_name) (t_is_name a) :=
  (db_cons (ds_if (DenW.t (dw_or (dt_not (dt_tru (de_cb okc_isi F.b_isinstance boot_isinstance (da_cons (de_var 0) (da_cons (de_bltn (d := .ty "str") (v := .ty "str") F.b_str boot_str rfl) da_nil))))) (dw_or1 (dt_not (dt_chain ok_le ok_le de_int (de_cb okc_len F.b_len boot_len (da_cons (de_var 0) da_nil)) (de_gint F.c_LONGEST)))))) (db_one (ds_ret de_bl)) db_nil)
  (db_one (ds_ret (de_cb (okc_all rfl) F.b_all boot_all (da_cons (de_lc (own := [("letter", 1)]) false rfl rfl sc_is_name.nd (blkOk_by (own := [("letter", 1)]) (N := N_is_name) (sc := defScope s_is_name) (by decide +kernel)) (di_str (de_var 0)) (fun _ _ _ _ _ => (dg_name 1 sc_is_name.nd)) (fun _ _ _ _ _ => dts_nil) (fun _ _ _ _ _ => (de_cmp ok_in (de_var 1) (de_gstr F.c_LETTERS)))) da_nil)))))
--@ are_names
abbrev s_are_names : Stmt := topS 14
abbrev N_are_names : List Str := ["thing", "many", "one", "other", "name"]
theorem sc_are_names : FnScope N_are_names ["thing", "many"] (defScope s_are_names) := ⟨rfl, rfl, rfl, by decide +kernel, rfl, by decide +kernel, by decide +kernel⟩
def t_are_names (a : Ad) : AS :=
  (aSeq (aIfS (aOr (aNot (aTru (aCB IsiA (aCons (aWk (aVar 0)) (aCons (aC (.ty "tuple")) aNil))))) (aOr (aB (aBin GtA (aCB LenA (aCons (aWk (aVar 0)) aNil)) (aVar 1))) (aNot (aTru (aCB AllA (aCons (aLcL [4] (iTupA (aWk (aVar 0))) (gNameA 4) aYes (aCall (sp_is_name a) (fun ds _ => ds) 1 (aCons (aVar 4) aNil)) rFro) aNil))))))
  (aRet (aC (.bl false)))
  aNext)
  (aRet (aCB AllA (aCons (aLcL [2, 3] (iZipD (aCons (aWk (aVar 0)) (aCons (aSl (aWk (aVar 0)) (aPart (aC (.int 1))) aNoPart) aNil))) (gTupA 2 (gConsA (gNameA 2) (gConsA (gNameA 3) gNilA))) aYes (aBin LtA (aVar 2) (aVar 3)) rFro) aNil))))
theorem den_are_names (F : Fx P w K mg a)
    (h_is_name : Fn1 P w K mg base "is_name" 1 [] 1 0 (fun ds _ => ds) (sp_is_name a))
    {f : Addr} {cdv : Value} {A : Around} {outer : List Env} {s : Shared} {H : Hp} {E : XK} (hr : Room 1 (A.deeper (envOfC "are_names" (defScope s_are_names) s.heap.objs.size f cdv))) :
    DenB (cxOf (L2.CX P w) P w K mg base N_are_names "are_names" (defScope s_are_names) f cdv A outer s H E) (defBody s_are_names) (t_are_names a) :=
  (db_cons (ds_if (DenW.t (dw_or (dt_not (dt_tru (de_cb okc_isi F.b_isinstance boot_isinstance (da_cons (de_wk (de_var 0)) (da_cons (de_bltn (d := .ty "tuple") (v := .ty "tuple") F.b_tuple boot_tuple rfl) da_nil))))) (dw_or (dt_cmp ok_gt (de_cb okc_len F.b_len boot_len (da_cons (de_wk (de_var 0)) da_nil)) (de_var 1)) (dw_or1 (dt_not (dt_tru (de_cb (okc_all rfl) F.b_all boot_all (da_cons (de_lc (own := [("name", 4)]) false rfl rfl sc_are_names.nd (blkOk_by (own := [("name", 4)]) (N := N_are_names) (sc := defScope s_are_names) (by decide +kernel)) (di_tup (de_wk (de_var 0))) (fun _ _ _ _ _ => (dg_name 4 sc_are_names.nd)) (fun _ _ _ _ _ => dts_nil) (fun _ _ _ _ _ => (de_f h_is_name (hr.mono (by decide)) (da_cons (de_var 4) da_nil)))) da_nil)))))))) (db_one (ds_ret de_bl)) db_nil)
  (db_one (ds_ret (de_cb (okc_all rfl) F.b_all boot_all (da_cons (de_lc (own := [("one", 2), ("other", 3)]) false rfl rfl sc_are_names.nd (blkOk_by (own := [("one", 2), ("other", 3)]) (N := N_are_names) (sc := defScope s_are_names) (by decide +kernel)) (di_zip F.b_zip (da_cons (de_wk (de_var 0)) (da_cons (de_sl (de_wk (de_var 0)) (do_some de_int) do_none) da_nil))) (fun _ _ _ _ _ => (dg_tup rfl (dgs_cons (dg_name 2 sc_are_names.nd) (dgs_cons (dg_name 3 sc_are_names.nd) dgs_nil)))) (fun _ _ _ _ _ => dts_nil) (fun _ _ _ _ _ => (de_cmp ok_lt (de_var 2) (de_var 3)))) da_nil)))))
--@ shared_out
abbrev s_shared_out : Stmt := topS 16
abbrev N_shared_out : List Str := ["row", "halves", "count", "inside", "found"]
theorem sc_shared_out : FnScope N_shared_out ["row", "halves", "count", "inside"] (defScope s_shared_out) := ⟨rfl, rfl, rfl, by decide +kernel, rfl, by decide +kernel, by decide +kernel⟩
def t_shared_out (a : Ad) : AS :=
  (aSeq (aAsg (aCB ListMA (aCons (aVar 0) aNil)) (gNameA 4))
  (aSeq (aAsg (aBin SubA (aVar 2) (aVar 3)) (gSetL (aVar 4) (aBin IxA (aVar 1) (aC (.int 0)))))
  (aSeq (aAsg (aVar 3) (gSetL (aVar 4) (aBin IxA (aVar 1) (aC (.int 1)))))
  (aRet (aFrz (aVar 4))))))
theorem den_shared_out (F : Fx P w K mg a)
    {f : Addr} {cdv : Value} {A : Around} {outer : List Env} {s : Shared} {H : Hp} {E : XK} (hr : Room 0 (A.deeper (envOfC "shared_out" (defScope s_shared_out) s.heap.objs.size f cdv))) :
    DenB (cxOf (L2.CX P w) P w K mg base N_shared_out "shared_out" (defScope s_shared_out) f cdv A outer s H E) (defBody s_shared_out) (t_shared_out a) :=
  (db_cons (ds_set 4 sc_shared_out.nd (de_ct okc_listM F.b_list boot_list (da_cons (de_var 0) da_nil)))
  (db_cons (ds_asg (de_bin ok_sub (de_var 2) (de_var 3)) (dg_sub (de_var 4) (de_ix (de_var 1) de_int)))
  (db_cons (ds_asg (de_var 3) (dg_sub (de_var 4) (de_ix (de_var 1) de_int)))
  (db_one (ds_ret (de_frz (de_var 4)))))))
--@ Talk.__init__
abbrev s_Talk_init : Stmt := inClass (topS 21) 0
abbrev N_Talk_init : List Str := ["self", "sets", "numbers", "most", "name"]
theorem sc_Talk_init : FnScope N_Talk_init ["self", "sets", "numbers", "most"] (defScope s_Talk_init) := ⟨rfl, rfl, rfl, by decide +kernel, rfl, by decide +kernel, by decide +kernel⟩
def t_Talk_init (a : Ad) : AS :=
  (aSeq (aIfS (aOr (aNot (aTru (aCall (sp_are_names a) (fun ds _ => ds) 2 (aCons (aVar 1) (aCons (aC (.int 3)) aNil))))) (aNot (aTru (aCall (sp_are_names a) (fun ds _ => ds) 2 (aCons (aVar 2) (aCons (aC (.int 2)) aNil))))))
  (aRaise ⟨a.NoTalk, none⟩)
  aNext)
  (aSeq (aIfS (aOr (aTru (aCB AnyA (aCons (aLcL [4] (iTupA (aVar 2)) (gNameA 4) aYes (aBin InA (aVar 4) (aVar 1)) rFro) aNil))) (aNot (aTru (aCallK (sp_is_whole a) (fun ds es => ds ++ es ++ [.non]) 1 1 (aCons (aVar 3) aNil) (aCons (aC (.int 1)) aNil)))))
  (aRaise ⟨a.NoTalk, none⟩)
  aNext)
  (aSeq (aSetF a.Talk "set_names" (aVar 0) (aVar 1))
  (aSeq (aSetF a.Talk "number_names" (aVar 0) (aVar 2))
  (aSetF a.Talk "top" (aVar 0) (aVar 3))))))
theorem den_Talk_init (F : Fx P w K mg a)
    (h_are_names : Fn1 P w K mg base "are_names" 2 [] 2 0 (fun ds _ => ds) (sp_are_names a))
    (h_is_whole_l : Fn1 P w K mg base "is_whole" 1 ["least"] 1 1 (fun ds es => ds ++ es ++ [.non]) (sp_is_whole a))
    {f : Addr} {cdv : Value} {A : Around} {outer : List Env} {s : Shared} {H : Hp} {E : XK} (hr : Room 2 (A.deeper (envOfC "Talk.__init__" (defScope s_Talk_init) s.heap.objs.size f cdv))) :
    DenB (cxOf (L2.CX P w) P w K mg base N_Talk_init "Talk.__init__" (defScope s_Talk_init) f cdv A outer s H E) (defBody s_Talk_init) (t_Talk_init a) :=
  (db_cons (ds_if (DenW.t (dw_or (dt_not (dt_tru (de_f h_are_names (hr.mono (by decide)) (da_cons (de_var 1) (da_cons (de_gint F.c_MOST_SETS) da_nil))))) (dw_or1 (dt_not (dt_tru (de_f h_are_names (hr.mono (by decide)) (da_cons (de_var 2) (da_cons (de_gint F.c_MOST_NUMBERS) da_nil)))))))) (db_one (ds_raise rfl PySem.F.excBase_ValueError F.x_NoTalk F.g_NoTalk F.p_NoTalk (raises_own F.e_NoTalk F.t_NoTalk))) db_nil)
  (db_cons (ds_if (DenW.t (dw_or (dt_tru (de_cb (okc_any rfl) F.b_any boot_any (da_cons (de_lc (own := [("name", 4)]) false rfl rfl sc_Talk_init.nd (blkOk_by (own := [("name", 4)]) (N := N_Talk_init) (sc := defScope s_Talk_init) (by decide +kernel)) (di_tup (de_var 2)) (fun _ _ _ _ _ => (dg_name 4 sc_Talk_init.nd)) (fun _ _ _ _ _ => dts_nil) (fun _ _ _ _ _ => (de_cmp ok_in (de_var 4) (de_var 1)))) da_nil))) (dw_or1 (dt_not (dt_tru (de_fk h_is_whole_l (hr.mono (by decide)) (da_cons (de_var 3) da_nil) (dk_cons de_int dk_nil))))))) (db_one (ds_raise rfl PySem.F.excBase_ValueError F.x_NoTalk F.g_NoTalk F.p_NoTalk (raises_own F.e_NoTalk F.t_NoTalk))) db_nil)
  (db_cons (ds_fld F.k_Talk F.n_Talk_set_names (de_var 0) (de_var 1))
  (db_cons (ds_fld F.k_Talk F.n_Talk_number_names (de_var 0) (de_var 2))
  (db_one (ds_fld F.k_Talk F.n_Talk_top (de_var 0) (de_var 3)))))))
--@ Talk.sets
abbrev s_Talk_sets : Stmt := inClass (topS 21) 1
abbrev N_Talk_sets : List Str := ["self"]
theorem sc_Talk_sets : FnScope N_Talk_sets ["self"] (defScope s_Talk_sets) := ⟨rfl, rfl, rfl, by decide +kernel, rfl, by decide +kernel, by decide +kernel⟩
def t_Talk_sets (a : Ad) : AS :=
  (aRet (aFld a.Talk "set_names" (aVar 0)))
theorem den_Talk_sets (F : Fx P w K mg a)
    {f : Addr} {cdv : Value} {A : Around} {outer : List Env} {s : Shared} {H : Hp} {E : XK} (hr : Room 0 (A.deeper (envOfC "Talk.sets" (defScope s_Talk_sets) s.heap.objs.size f cdv))) :
    DenB (cxOf (L2.CX P w) P w K mg base N_Talk_sets "Talk.sets" (defScope s_Talk_sets) f cdv A outer s H E) (defBody s_Talk_sets) (t_Talk_sets a) :=
  (db_one (ds_ret (de_fld F.k_Talk F.n_Talk_set_names (de_var 0))))
--@ Talk.numbers
abbrev s_Talk_numbers : Stmt := inClass (topS 21) 2
abbrev N_Talk_numbers : List Str := ["self"]
theorem sc_Talk_numbers : FnScope N_Talk_numbers ["self"] (defScope s_Talk_numbers) := ⟨rfl, rfl, rfl, by decide +kernel, rfl, by decide +kernel, by decide +kernel⟩
def t_Talk_numbers (a : Ad) : AS :=
  (aRet (aFld a.Talk "number_names" (aVar 0)))
theorem den_Talk_numbers (F : Fx P w K mg a)
    {f : Addr} {cdv : Value} {A : Around} {outer : List Env} {s : Shared} {H : Hp} {E : XK} (hr : Room 0 (A.deeper (envOfC "Talk.numbers" (defScope s_Talk_numbers) s.heap.objs.size f cdv))) :
    DenB (cxOf (L2.CX P w) P w K mg base N_Talk_numbers "Talk.numbers" (defScope s_Talk_numbers) f cdv A outer s H E) (defBody s_Talk_numbers) (t_Talk_numbers a) :=
  (db_one (ds_ret (de_fld F.k_Talk F.n_Talk_number_names (de_var 0))))
--@ Talk.most
abbrev s_Talk_most : Stmt := inClass (topS 21) 3
abbrev N_Talk_most : List Str := ["self"]
theorem sc_Talk_most : FnScope N_Talk_most ["self"] (defScope s_Talk_most) := ⟨rfl, rfl, rfl, by decide +kernel, rfl, by decide +kernel, by decide +kernel⟩
def t_Talk_most (a : Ad) : AS :=
  (aRet (aFld a.Talk "top" (aVar 0)))
theorem den_Talk_most (F : Fx P w K mg a)
    {f : Addr} {cdv : Value} {A : Around} {outer : List Env} {s : Shared} {H : Hp} {E : XK} (hr : Room 0 (A.deeper (envOfC "Talk.most" (defScope s_Talk_most) s.heap.objs.size f cdv))) :
    DenB (cxOf (L2.CX P w) P w K mg base N_Talk_most "Talk.most" (defScope s_Talk_most) f cdv A outer s H E) (defBody s_Talk_most) (t_Talk_most a) :=
  (db_one (ds_ret (de_fld F.k_Talk F.n_Talk_top (de_var 0))))
--@ Talk.regions
abbrev s_Talk_regions : Stmt := inClass (topS 21) 4
abbrev N_Talk_regions : List Str := ["self"]
theorem sc_Talk_regions : FnScope N_Talk_regions ["self"] (defScope s_Talk_regions) := ⟨rfl, rfl, rfl, by decide +kernel, rfl, by decide +kernel, by decide +kernel⟩
def t_Talk_regions (a : Ad) : AS :=
  (aRet (aBin ShlA (aC (.int 1)) (aCB LenA (aCons (aFld a.Talk "set_names" (aVar 0)) aNil))))
theorem den_Talk_regions (F : Fx P w K mg a)
    {f : Addr} {cdv : Value} {A : Around} {outer : List Env} {s : Shared} {H : Hp} {E : XK} (hr : Room 0 (A.deeper (envOfC "Talk.regions" (defScope s_Talk_regions) s.heap.objs.size f cdv))) :
    DenB (cxOf (L2.CX P w) P w K mg base N_Talk_regions "Talk.regions" (defScope s_Talk_regions) f cdv A outer s H E) (defBody s_Talk_regions) (t_Talk_regions a) :=
  (db_one (ds_ret (de_bin ok_shl de_int (de_cb okc_len F.b_len boot_len (da_cons (de_fld F.k_Talk F.n_Talk_set_names (de_var 0)) da_nil)))))
--@ Talk.need_region
abbrev s_Talk_need_region : Stmt := inClass (topS 21) 5
abbrev N_Talk_need_region : List Str := ["self", "region"]
theorem sc_Talk_need_region : FnScope N_Talk_need_region ["self", "region"] (defScope s_Talk_need_region) := ⟨rfl, rfl, rfl, by decide +kernel, rfl, by decide +kernel, by decide +kernel⟩
def t_Talk_need_region (a : Ad) : AS :=
  (aIfS (aNot (aTru (aCallK (sp_is_whole a) (fun ds es => ds ++ es) 1 2 (aCons (aVar 1) aNil) (aCons (aC (.int 0)) (aCons (aBin SubA (aMeth a.Talk "regions" (sp_Talk_regions a) (fun ds _ => ds) 1 0 (aVar 0) aNil aNil) (aC (.int 1))) aNil)))))
  aNeverS
  aNext)
theorem den_Talk_need_region (F : Fx P w K mg a)
    (h_is_whole_lm : Fn1 P w K mg base "is_whole" 1 ["least", "most"] 1 2 (fun ds es => ds ++ es) (sp_is_whole a))
    (h_Talk_regions : Mt1 P w K mg base a.Talk "regions" 1 [] 1 0 (fun ds _ => ds) (sp_Talk_regions a))
    {f : Addr} {cdv : Value} {A : Around} {outer : List Env} {s : Shared} {H : Hp} {E : XK} (hr : Room 1 (A.deeper (envOfC "Talk.need_region" (defScope s_Talk_need_region) s.heap.objs.size f cdv))) :
    DenB (cxOf (L2.CX P w) P w K mg base N_Talk_need_region "Talk.need_region" (defScope s_Talk_need_region) f cdv A outer s H E) (defBody s_Talk_need_region) (t_Talk_need_region a) :=
  (db_one (ds_if (dt_not (dt_tru (de_fk h_is_whole_lm (hr.mono (by decide)) (da_cons (de_var 1) da_nil) (dk_cons de_int (dk_cons (de_bin ok_sub (de_m0 h_Talk_regions (hr.mono (by decide)) (de_var 0)) de_int) dk_nil))))) (db_one ds_never) db_nil))
--@ Talk.wider
abbrev s_Talk_wider : Stmt := inClass (topS 21) 8
abbrev N_Talk_wider : List Str := ["self", "name"]
theorem sc_Talk_wider : FnScope N_Talk_wider ["self", "name"] (defScope s_Talk_wider) := ⟨rfl, rfl, rfl, by decide +kernel, rfl, by decide +kernel, by decide +kernel⟩
def t_Talk_wider (a : Ad) : AS :=
  (aSeq (aIfS (aNot (aTru (aCall (sp_is_name a) (fun ds _ => ds) 1 (aCons (aVar 1) aNil))))
  (aRaise ⟨a.NoTalk, none⟩)
  aNext)
  (aRet (aMk false a.Talk (sp_Talk_init a) (fun ds es => ds ++ es) 2 1 (aCons (aCB TupleNA (aCons (aCB SortedTA (aCons (aBin AddA (aWk (aFld a.Talk "set_names" (aVar 0))) (aTup (aCons (aVar 1) aNil))) aNil)) aNil)) (aCons (aWk (aFld a.Talk "number_names" (aVar 0))) aNil)) (aCons (aFld a.Talk "top" (aVar 0)) aNil))))
theorem den_Talk_wider (F : Fx P w K mg a)
    (h_is_name : Fn1 P w K mg base "is_name" 1 [] 1 0 (fun ds _ => ds) (sp_is_name a))
    (h_Talk_m : Mk1 P w K mg base "Talk" a.Talk 3 ["most"] 2 1 (fun ds es => ds ++ es) (sp_Talk_init a))
    {f : Addr} {cdv : Value} {A : Around} {outer : List Env} {s : Shared} {H : Hp} {E : XK} (hr : Room 4 (A.deeper (envOfC "Talk.wider" (defScope s_Talk_wider) s.heap.objs.size f cdv))) :
    DenB (cxOf (L2.CX P w) P w K mg base N_Talk_wider "Talk.wider" (defScope s_Talk_wider) f cdv A outer s H E) (defBody s_Talk_wider) (t_Talk_wider a) :=
  (db_cons (ds_if (dt_not (dt_tru (de_f h_is_name (hr.mono (by decide)) (da_cons (de_var 1) da_nil)))) (db_one (ds_raise rfl PySem.F.excBase_ValueError F.x_NoTalk F.g_NoTalk F.p_NoTalk (raises_own F.e_NoTalk F.t_NoTalk))) db_nil)
  (db_one (ds_ret (de_k false h_Talk_m (hr.mono (by decide)) (da_cons (de_ct okc_tupleN F.b_tuple boot_tuple (da_cons (de_cb okc_sortedT F.b_sorted boot_sorted (da_cons (de_bin ok_add (de_wk (de_fld F.k_Talk F.n_Talk_set_names (de_var 0))) (de_tup (da_cons (de_var 1) da_nil))) da_nil)) da_nil)) (da_cons (de_wk (de_fld F.k_Talk F.n_Talk_number_names (de_var 0))) da_nil)) (dk_cons (de_fld F.k_Talk F.n_Talk_top (de_var 0)) dk_nil)))))
--@ Talk.halves
abbrev s_Talk_halves : Stmt := inClass (topS 21) 9
abbrev N_Talk_halves : List Str := ["self", "region", "name", "at", "low", "out"]
theorem sc_Talk_halves : FnScope N_Talk_halves ["self", "region", "name"] (defScope s_Talk_halves) := ⟨rfl, rfl, rfl, by decide +kernel, rfl, by decide +kernel, by decide +kernel⟩
def t_Talk_halves (a : Ad) : AS :=
  (aSeq (aAsg (aTIx (aMeth a.Talk "sets" (sp_Talk_sets a) (fun ds _ => ds) 1 0 (aMeth a.Talk "wider" (sp_Talk_wider a) (fun ds _ => ds) 2 0 (aVar 0) (aCons (aVar 2) aNil) aNil) aNil aNil) (aCons (aVar 2) aNil)) (gNameA 3))
  (aSeq (aDrop (aMeth a.Talk "need_region" (sp_Talk_need_region a) (fun ds _ => ds) 2 0 (aVar 0) (aCons (aVar 1) aNil) aNil))
  (aSeq (aAsg (aBin ModA (aVar 1) (aBin ShlA (aC (.int 1)) (aVar 3))) (gNameA 4))
  (aSeq (aAsg (aBin AddA (aBin MulA (aBin SubA (aVar 1) (aVar 4)) (aC (.int 2))) (aVar 4)) (gNameA 5))
  (aRet (aTup (aCons (aVar 5) (aCons (aBin AddA (aVar 5) (aBin ShlA (aC (.int 1)) (aVar 3))) aNil))))))))
theorem den_Talk_halves (F : Fx P w K mg a)
    (h_Talk_wider : Mt1 P w K mg base a.Talk "wider" 5 [] 2 0 (fun ds _ => ds) (sp_Talk_wider a))
    (h_Talk_sets : Mt1 P w K mg base a.Talk "sets" 1 [] 1 0 (fun ds _ => ds) (sp_Talk_sets a))
    (h_Talk_need_region : Mt1 P w K mg base a.Talk "need_region" 2 [] 2 0 (fun ds _ => ds) (sp_Talk_need_region a))
    {f : Addr} {cdv : Value} {A : Around} {outer : List Env} {s : Shared} {H : Hp} {E : XK} (hr : Room 5 (A.deeper (envOfC "Talk.halves" (defScope s_Talk_halves) s.heap.objs.size f cdv))) :
    DenB (cxOf (L2.CX P w) P w K mg base N_Talk_halves "Talk.halves" (defScope s_Talk_halves) f cdv A outer s H E) (defBody s_Talk_halves) (t_Talk_halves a) :=
  (db_cons (ds_set 3 sc_Talk_halves.nd (de_tix PySem.F.plainAttrs_tuple PySem.F.slot_tuple_index PySem.F.type_tuple_index (de_m0 h_Talk_sets (hr.mono (by decide)) (de_m h_Talk_wider (hr.mono (by decide)) (de_var 0) (da_cons (de_var 2) da_nil))) (da_cons (de_var 2) da_nil)))
  (db_cons (ds_expr (de_m h_Talk_need_region (hr.mono (by decide)) (de_var 0) (da_cons (de_var 1) da_nil)))
  (db_cons (ds_set 4 sc_Talk_halves.nd (de_bin ok_mod (de_var 1) (de_bin ok_shl de_int (de_var 3))))
  (db_cons (ds_set 5 sc_Talk_halves.nd (de_bin ok_add (de_bin ok_mul (de_bin ok_sub (de_var 1) (de_var 4)) de_int) (de_var 4)))
  (db_one (ds_ret (de_tup (da_cons (de_var 5) (da_cons (de_bin ok_add (de_var 5) (de_bin ok_shl de_int (de_var 3))) da_nil)))))))))
--@ is_world
abbrev s_is_world : Stmt := topS 23
abbrev N_is_world : List Str := ["talk", "thing", "counts", "values", "count", "value"]
theorem sc_is_world : FnScope N_is_world ["talk", "thing"] (defScope s_is_world) := ⟨rfl, rfl, rfl, by decide +kernel, rfl, by decide +kernel, by decide +kernel⟩
def t_is_world (a : Ad) : AS :=
  (aSeq (aIfS (aOr (aNot (aTru (aCB IsiA (aCons (aVar 1) (aCons (aC (.ty "tuple")) aNil))))) (aB (aBin NeA (aCB LenA (aCons (aVar 1) aNil)) (aC (.int 2)))))
  (aRet (aC (.bl false)))
  aNext)
  (aSeq (aAsg (aVar 1) (gTupA 2 (gConsA (gNameA 2) (gConsA (gNameA 3) gNilA))))
  (aSeq (aIfS (aOr (aNot (aTru (aCB IsiA (aCons (aVar 2) (aCons (aC (.ty "tuple")) aNil))))) (aNot (aTru (aCB IsiA (aCons (aVar 3) (aCons (aC (.ty "tuple")) aNil))))))
  (aRet (aC (.bl false)))
  aNext)
  (aSeq (aIfS (aOr (aB (aBin NeA (aCB LenA (aCons (aVar 2) aNil)) (aMeth a.Talk "regions" (sp_Talk_regions a) (fun ds _ => ds) 1 0 (aVar 0) aNil aNil))) (aB (aBin NeA (aCB LenA (aCons (aVar 3) aNil)) (aCB LenA (aCons (aMeth a.Talk "numbers" (sp_Talk_numbers a) (fun ds _ => ds) 1 0 (aVar 0) aNil aNil) aNil)))))
  (aRet (aC (.bl false)))
  aNext)
  (aSeq (aIfS (aNot (aTru (aCB AllA (aCons (aLcL [4] (iTupA (aVar 2)) (gNameA 4) aYes (aCallK (sp_is_whole a) (fun ds es => ds ++ es ++ [.non]) 1 1 (aCons (aVar 4) aNil) (aCons (aC (.int 0)) aNil)) rFro) aNil))))
  (aRet (aC (.bl false)))
  aNext)
  (aSeq (aIfS (aNot (aTru (aCB AllA (aCons (aLcL [5] (iTupA (aVar 3)) (gNameA 5) aYes (aCallK (sp_is_whole a) (fun ds es => ds ++ es) 1 2 (aCons (aVar 5) aNil) (aCons (aC (.int 0)) (aCons (aMeth a.Talk "most" (sp_Talk_most a) (fun ds _ => ds) 1 0 (aVar 0) aNil aNil) aNil))) rFro) aNil))))
  (aRet (aC (.bl false)))
  aNext)
  (aRet (aBin LeA (aCB SumTA (aCons (aVar 2) aNil)) (aMeth a.Talk "most" (sp_Talk_most a) (fun ds _ => ds) 1 0 (aVar 0) aNil aNil)))))))))
theorem den_is_world (F : Fx P w K mg a)
    (h_Talk_regions : Mt1 P w K mg base a.Talk "regions" 1 [] 1 0 (fun ds _ => ds) (sp_Talk_regions a))
    (h_Talk_numbers : Mt1 P w K mg base a.Talk "numbers" 1 [] 1 0 (fun ds _ => ds) (sp_Talk_numbers a))
    (h_is_whole_l : Fn1 P w K mg base "is_whole" 1 ["least"] 1 1 (fun ds es => ds ++ es ++ [.non]) (sp_is_whole a))
    (h_is_whole_lm : Fn1 P w K mg base "is_whole" 1 ["least", "most"] 1 2 (fun ds es => ds ++ es) (sp_is_whole a))
    (h_Talk_most : Mt1 P w K mg base a.Talk "most" 1 [] 1 0 (fun ds _ => ds) (sp_Talk_most a))
    {f : Addr} {cdv : Value} {A : Around} {outer : List Env} {s : Shared} {H : Hp} {E : XK} (hr : Room 1 (A.deeper (envOfC "is_world" (defScope s_is_world) s.heap.objs.size f cdv))) :
    DenB (cxOf (L2.CX P w) P w K mg base N_is_world "is_world" (defScope s_is_world) f cdv A outer s H E) (defBody s_is_world) (t_is_world a) :=
  (db_cons (ds_if (DenW.t (dw_or (dt_not (dt_tru (de_cb okc_isi F.b_isinstance boot_isinstance (da_cons (de_var 1) (da_cons (de_bltn (d := .ty "tuple") (v := .ty "tuple") F.b_tuple boot_tuple rfl) da_nil))))) (dw_or1 (dt_cmp (ok_ne hr.units) (de_cb okc_len F.b_len boot_len (da_cons (de_var 1) da_nil)) de_int)))) (db_one (ds_ret de_bl)) db_nil)
  (db_cons (ds_asg (de_var 1) (dg_tup rfl (dgs_cons (dg_name 2 sc_is_world.nd) (dgs_cons (dg_name 3 sc_is_world.nd) dgs_nil))))
  (db_cons (ds_if (DenW.t (dw_or (dt_not (dt_tru (de_cb okc_isi F.b_isinstance boot_isinstance (da_cons (de_var 2) (da_cons (de_bltn (d := .ty "tuple") (v := .ty "tuple") F.b_tuple boot_tuple rfl) da_nil))))) (dw_or1 (dt_not (dt_tru (de_cb okc_isi F.b_isinstance boot_isinstance (da_cons (de_var 3) (da_cons (de_bltn (d := .ty "tuple") (v := .ty "tuple") F.b_tuple boot_tuple rfl) da_nil)))))))) (db_one (ds_ret de_bl)) db_nil)
  (db_cons (ds_if (DenW.t (dw_or (dt_cmp (ok_ne hr.units) (de_cb okc_len F.b_len boot_len (da_cons (de_var 2) da_nil)) (de_m0 h_Talk_regions (hr.mono (by decide)) (de_var 0))) (dw_or1 (dt_cmp (ok_ne hr.units) (de_cb okc_len F.b_len boot_len (da_cons (de_var 3) da_nil)) (de_cb okc_len F.b_len boot_len (da_cons (de_m0 h_Talk_numbers (hr.mono (by decide)) (de_var 0)) da_nil)))))) (db_one (ds_ret de_bl)) db_nil)
  (db_cons (ds_if (dt_not (dt_tru (de_cb (okc_all rfl) F.b_all boot_all (da_cons (de_lc (own := [("count", 4)]) false rfl rfl sc_is_world.nd (blkOk_by (own := [("count", 4)]) (N := N_is_world) (sc := defScope s_is_world) (by decide +kernel)) (di_tup (de_var 2)) (fun _ _ _ _ _ => (dg_name 4 sc_is_world.nd)) (fun _ _ _ _ _ => dts_nil) (fun _ _ _ _ _ => (de_fk h_is_whole_l (hr.mono (by decide)) (da_cons (de_var 4) da_nil) (dk_cons de_int dk_nil)))) da_nil)))) (db_one (ds_ret de_bl)) db_nil)
  (db_cons (ds_if (dt_not (dt_tru (de_cb (okc_all rfl) F.b_all boot_all (da_cons (de_lc (own := [("value", 5)]) false rfl rfl sc_is_world.nd (blkOk_by (own := [("value", 5)]) (N := N_is_world) (sc := defScope s_is_world) (by decide +kernel)) (di_tup (de_var 3)) (fun _ _ _ _ _ => (dg_name 5 sc_is_world.nd)) (fun _ _ _ _ _ => dts_nil) (fun _ _ _ _ _ => (de_fk h_is_whole_lm (hr.mono (by decide)) (da_cons (de_var 5) da_nil) (dk_cons de_int (dk_cons (de_m0 h_Talk_most (hr.mono (by decide)) (de_var 0)) dk_nil))))) da_nil)))) (db_one (ds_ret de_bl)) db_nil)
  (db_one (ds_ret (de_cmp ok_le (de_cb (okc_sumT rfl) F.b_sum boot_sum (da_cons (de_var 2) da_nil)) (de_m0 h_Talk_most (hr.mono (by decide)) (de_var 0)))))))))))
--@ shares
abbrev s_shares : Stmt := topS 17
abbrev N_shares : List Str := ["talk", "world", "name", "rows", "counts", "values", "region", "count", "halves", "row", "inside"]
theorem sc_shares : FnScope N_shares ["talk", "world", "name"] (defScope s_shares) := ⟨rfl, rfl, rfl, by decide +kernel, rfl, by decide +kernel, by decide +kernel⟩
def t_shares (a : Ad) : AS :=
  (aSeq (aAsg (aVar 1) (gTupA 2 (gConsA (gNameA 4) (gConsA (gNameA 5) gNilA))))
  (aSeq (aAsg (aLst (aCons (aBin MulA (aLst (aCons (aC (.int 0)) aNil)) (aMeth a.Talk "regions" (sp_Talk_regions a) (fun ds _ => ds) 1 0 (aMeth a.Talk "wider" (sp_Talk_wider a) (fun ds _ => ds) 2 0 (aVar 0) (aCons (aVar 2) aNil) aNil) aNil aNil)) aNil)) (gNameA 3))
  (aSeq (aFor (iEnumTA (aCons (aVar 4) aNil)) (gTupA 2 (gConsA (gNameA 6) (gConsA (gNameA 7) gNilA)))
  (aSeq (aAsg (aMeth a.Talk "halves" (sp_Talk_halves a) (fun ds _ => ds) 3 0 (aVar 0) (aCons (aVar 6) (aCons (aVar 2) aNil)) aNil) (gNameA 8))
  (aAsg (aLc2L [9, 10] [10] (iLstA (aVar 3)) (gNameA 9) aYes (iRngA1 (aCons (aBin AddA (aVar 7) (aC (.int 1))) aNil)) (gNameA 10) aYes (aCall (sp_shared_out a) (fun ds _ => ds) 4 (aCons (aVar 9) (aCons (aVar 8) (aCons (aVar 7) (aCons (aVar 10) aNil))))) rFro) (gNameA 3))))
  (aRet (aCB SortPMA (aCons (aLcL [9] (iLstA (aVar 3)) (gNameA 9) aYes (aTup (aCons (aCB TupleA (aCons (aVar 9) aNil)) (aCons (aVar 5) aNil))) rFro) aNil))))))
theorem den_shares (F : Fx P w K mg a)
    (h_Talk_wider : Mt1 P w K mg base a.Talk "wider" 5 [] 2 0 (fun ds _ => ds) (sp_Talk_wider a))
    (h_Talk_regions : Mt1 P w K mg base a.Talk "regions" 1 [] 1 0 (fun ds _ => ds) (sp_Talk_regions a))
    (h_Talk_halves : Mt1 P w K mg base a.Talk "halves" 6 [] 3 0 (fun ds _ => ds) (sp_Talk_halves a))
    (h_shared_out : Fn1 P w K mg base "shared_out" 1 [] 4 0 (fun ds _ => ds) (sp_shared_out a))
    {f : Addr} {cdv : Value} {A : Around} {outer : List Env} {s : Shared} {H : Hp} {E : XK} (hr : Room 6 (A.deeper (envOfC "shares" (defScope s_shares) s.heap.objs.size f cdv))) :
    DenB (cxOf (L2.CX P w) P w K mg base N_shares "shares" (defScope s_shares) f cdv A outer s H E) (defBody s_shares) (t_shares a) :=
  (db_cons (ds_asg (de_var 1) (dg_tup rfl (dgs_cons (dg_name 4 sc_shares.nd) (dgs_cons (dg_name 5 sc_shares.nd) dgs_nil))))
  (db_cons (ds_set 3 sc_shares.nd (de_lst (da_cons (de_bin ok_mul (de_lst (da_cons de_int da_nil)) (de_m0 h_Talk_regions (hr.mono (by decide)) (de_m h_Talk_wider (hr.mono (by decide)) (de_var 0) (da_cons (de_var 2) da_nil)))) da_nil)))
  (db_cons (ds_for (passes_of rfl) rfl (di_enumT F.b_enumerate (da_cons (de_var 4) da_nil)) (dg_tup rfl (dgs_cons (dg_name 6 sc_shares.nd) (dgs_cons (dg_name 7 sc_shares.nd) dgs_nil))) (db_cons (ds_set 8 sc_shares.nd (de_m h_Talk_halves (hr.mono (by decide)) (de_var 0) (da_cons (de_var 6) (da_cons (de_var 2) da_nil))))
  (db_one (ds_setLc2 (own := [("row", 9), ("inside", 10)]) (vs1 := [10]) false 3 rfl rfl sc_shares.nd (blkOk_by (own := [("row", 9), ("inside", 10)]) (N := N_shares) (sc := defScope s_shares) (by decide +kernel)) (di_list (de_var 3)) (fun _ _ _ _ _ => (dg_name 9 sc_shares.nd)) (fun _ _ _ _ _ => dts_nil) (fun _ _ _ _ _ => (di_range1 F.b_range (da_cons (de_bin ok_add (de_var 7) de_int) da_nil))) (fun _ _ _ _ _ => (dg_name 10 sc_shares.nd)) (fun _ _ _ _ _ => dts_nil) (fun _ _ _ _ _ => (de_f h_shared_out (hr.mono (by decide)) (da_cons (de_var 9) (da_cons (de_var 8) (da_cons (de_var 7) (da_cons (de_var 10) da_nil)))))) (sw_true rfl rfl rfl (by decide +kernel))))))
  (db_one (ds_ret (de_cb (okc_sortPM hr.u200) F.b_sorted boot_sorted (da_cons (de_lc (own := [("row", 9)]) false rfl rfl sc_shares.nd (blkOk_by (own := [("row", 9)]) (N := N_shares) (sc := defScope s_shares) (by decide +kernel)) (di_list (de_var 3)) (fun _ _ _ _ _ => (dg_name 9 sc_shares.nd)) (fun _ _ _ _ _ => dts_nil) (fun _ _ _ _ _ => (de_tup (da_cons (de_ct okc_tuple F.b_tuple boot_tuple (da_cons (de_var 9) da_nil)) (da_cons (de_var 5) da_nil))))) da_nil)))))))
--@ _law_pool
abbrev s_l_pool : Stmt := topS 25
abbrev N_l_pool : List Str := ["_law_script", "_law_k", "_law_cell"]
theorem sc_l_pool : FnScope N_l_pool ["_law_script", "_law_k"] (defScope s_l_pool) := ⟨rfl, rfl, rfl, by decide +kernel, rfl, by decide +kernel, by decide +kernel⟩
def t_l_pool (a : Ad) : AS :=
  (aSeq (aAsg (aC (.int 0)) (gNameA 2))
  (aSeq (aIfS (aB (aBin LtA (aVar 1) (aCB LenA (aCons (aVar 0) aNil))))
  (aAsg (aBin IxA (aVar 0) (aVar 1)) (gNameA 2))
  aNext)
  (aRet (aLstM (aCons (aCB MaxA (aCons (aC (.int 0)) (aCons (aBin SubA (aVar 2) (aBin PowA (aC (.int 10)) (aC (.int 18)))) aNil))) (aCons (aBin ModA (aVar 2) (aC (.int 1000000007))) (aCons (aBin AddA (aBin MulA (aC (.int 7919)) (aVar 1)) (aC (.int 1))) aNil)))))))
theorem den_l_pool (F : Fx P w K mg a)
    {f : Addr} {cdv : Value} {A : Around} {outer : List Env} {s : Shared} {H : Hp} {E : XK} (hr : Room 0 (A.deeper (envOfC "_law_pool" (defScope s_l_pool) s.heap.objs.size f cdv))) :
    DenB (cxOf (L2.CX P w) P w K mg base N_l_pool "_law_pool" (defScope s_l_pool) f cdv A outer s H E) (defBody s_l_pool) (t_l_pool a) :=
  (db_cons (ds_set 2 sc_l_pool.nd de_int)
  (db_cons (ds_if (dt_cmp ok_lt (de_var 1) (de_cb okc_len F.b_len boot_len (da_cons (de_var 0) da_nil))) (db_one (ds_set 2 sc_l_pool.nd (de_ix (de_var 0) (de_var 1)))) db_nil)
  (db_one (ds_ret (de_lstM (da_cons (de_cb (okc_max rfl) F.b_max boot_max (da_cons de_int (da_cons (de_bin ok_sub (de_var 2) (de_bin ok_pow de_int de_int)) da_nil))) (da_cons (de_bin ok_mod (de_var 2) de_int) (da_cons (de_bin ok_add (de_bin ok_mul de_int (de_var 1)) de_int) da_nil))))))))
--@ _law_take
abbrev s_l_take : Stmt := topS 26
abbrev N_l_take : List Str := ["_law_pool_here", "_law_many", "_law_one", "_law_two", "_law_digit"]
theorem sc_l_take : FnScope N_l_take ["_law_pool_here", "_law_many"] (defScope s_l_take) := ⟨rfl, rfl, rfl, by decide +kernel, rfl, by decide +kernel, by decide +kernel⟩
def t_l_take (a : Ad) : AS :=
  (aSeq (aIfS (aB (aBin GtA (aBin IxA (aVar 0) (aC (.int 0))) (aC (.int 0))))
  (aSeq (aAsg (aBin ModA (aBin IxA (aVar 0) (aC (.int 0))) (aVar 1)) (gNameA 4))
  (aSeq (aAsg (aBin DivA (aBin IxA (aVar 0) (aC (.int 0))) (aVar 1)) (gSetL (aVar 0) (aC (.int 0))))
  (aRet (aVar 4))))
  aNext)
  (aSeq (aAsg (aBin AddA (aBin IxA (aVar 0) (aC (.int 2))) (aC (.int 1))) (gSetL (aVar 0) (aC (.int 2))))
  (aSeq (aAsg (aBin ModA (aBin AddA (aBin AddA (aBin MulA (aBin IxA (aVar 0) (aC (.int 1))) (aC (.int 48271))) (aBin MulA (aC (.int 104729)) (aBin IxA (aVar 0) (aC (.int 2))))) (aC (.int 101))) (aC (.int 2147483629))) (gNameA 2))
  (aSeq (aAsg (aBin ModA (aBin PowA (aVar 2) (aC (.int 5))) (aC (.int 2147483587))) (gNameA 2))
  (aSeq (aAsg (aBin ModA (aBin PowA (aBin AddA (aBin AddA (aVar 2) (aBin MulA (aBin MulA (aC (.int 69621)) (aBin IxA (aVar 0) (aC (.int 2)))) (aBin IxA (aVar 0) (aC (.int 2))))) (aBin ModA (aBin IxA (aVar 0) (aC (.int 1))) (aC (.int 65537)))) (aC (.int 3))) (aC (.int 2147483563))) (gNameA 3))
  (aRet (aBin ModA (aBin DivA (aBin ModA (aBin MulA (aVar 3) (aC (.int 40692))) (aC (.int 2147483549))) (aC (.int 64))) (aVar 1))))))))
theorem den_l_take (F : Fx P w K mg a)
    {f : Addr} {cdv : Value} {A : Around} {outer : List Env} {s : Shared} {H : Hp} {E : XK} (hr : Room 0 (A.deeper (envOfC "_law_take" (defScope s_l_take) s.heap.objs.size f cdv))) :
    DenB (cxOf (L2.CX P w) P w K mg base N_l_take "_law_take" (defScope s_l_take) f cdv A outer s H E) (defBody s_l_take) (t_l_take a) :=
  (db_cons (ds_if (dt_cmp ok_gt (de_ix (de_var 0) de_int) de_int) (db_cons (ds_set 4 sc_l_take.nd (de_bin ok_mod (de_ix (de_var 0) de_int) (de_var 1)))
  (db_cons (ds_asg (de_bin ok_div (de_ix (de_var 0) de_int) (de_var 1)) (dg_sub (de_var 0) de_int))
  (db_one (ds_ret (de_var 4))))) db_nil)
  (db_cons (ds_asg (de_bin ok_add (de_ix (de_var 0) de_int) de_int) (dg_sub (de_var 0) de_int))
  (db_cons (ds_set 2 sc_l_take.nd (de_bin ok_mod (de_bin ok_add (de_bin ok_add (de_bin ok_mul (de_ix (de_var 0) de_int) de_int) (de_bin ok_mul de_int (de_ix (de_var 0) de_int))) de_int) de_int))
  (db_cons (ds_set 2 sc_l_take.nd (de_bin ok_mod (de_bin ok_pow (de_var 2) de_int) de_int))
  (db_cons (ds_set 3 sc_l_take.nd (de_bin ok_mod (de_bin ok_pow (de_bin ok_add (de_bin ok_add (de_var 2) (de_bin ok_mul (de_bin ok_mul de_int (de_ix (de_var 0) de_int)) (de_ix (de_var 0) de_int))) (de_bin ok_mod (de_ix (de_var 0) de_int) de_int)) de_int) de_int))
  (db_one (ds_ret (de_bin ok_mod (de_bin ok_div (de_bin ok_mod (de_bin ok_mul (de_var 3) de_int) de_int) de_int) (de_var 1)))))))))
--@ _law_names
abbrev s_l_names : Stmt := topS 28
abbrev N_l_names : List Str := ["_law_pool_here", "_law_many", "_law_letters", "_law_found", "_law_k", "_law_word", "_law_at", "_law_some", "_law_one", "_law_turn", "_law_letter"]
theorem sc_l_names : FnScope N_l_names ["_law_pool_here", "_law_many"] (defScope s_l_names) := ⟨rfl, rfl, rfl, by decide +kernel, rfl, by decide +kernel, by decide +kernel⟩
def t_l_names (a : Ad) : AS :=
  (aSeq (aAsg (aBin IxA (aLst (aCons (aC (.str "abcdefghijklmnopqrstuvwxyz")) (aCons (aC (.str "ab")) aNil))) (aCall (sp_l_take a) (fun ds _ => ds) 2 (aCons (aVar 0) (aCons (aC (.int 2)) aNil)))) (gNameA 2))
  (aSeq (aAsg (aLstM aNil) (gNameA 3))
  (aSeq (aFor (iRngA1 (aCons (aVar 1) aNil)) (gNameA 4)
  (aSeq (aAsg (aBM "str" JoinA (aC (.str "")) (aCons (aLcL [9] (iRngA1 (aCons (aBin AddA (aC (.int 1)) (aCall (sp_l_take a) (fun ds _ => ds) 2 (aCons (aVar 0) (aCons (aC (.int 8)) aNil)))) aNil)) (gNameA 9) aYes (aBin IxA (aVar 2) (aCall (sp_l_take a) (fun ds _ => ds) 2 (aCons (aVar 0) (aCons (aCB LenA (aCons (aVar 2) aNil)) aNil)))) rFro) aNil)) (gNameA 5))
  (aSeq (aAsg (aCall (sp_l_take a) (fun ds _ => ds) 2 (aCons (aVar 0) (aCons (aCB LenA (aCons (aVar 5) aNil)) aNil))) (gNameA 6))
  (aSeq (aAsg (aBin AddA (aLst (aCons (aVar 5) aNil)) (aLcL [10] (iStrA (aC (.str "abcdefghijklmnopqrstuvwxyz"))) (gNameA 10) aYes (aBin AddA (aBin AddA (aSl (aVar 5) aNoPart (aPart (aVar 6))) (aVar 10)) (aSl (aVar 5) (aPart (aBin AddA (aVar 6) (aC (.int 1)))) aNoPart)) rFro)) (gNameA 7))
  (aSeq (aAsg (aLcL [8] (iLstA (aVar 7)) (gNameA 8) (aB (aBin NotInA (aVar 8) (aVar 3))) (aVar 8) rFro) (gNameA 7))
  (aDrop (aBM "list" AppA (aVar 3) (aCons (aBin IxA (aVar 7) (aC (.int 0))) aNil))))))))
  (aRet (aFrz (aVar 3))))))
theorem den_l_names (F : Fx P w K mg a)
    (h_l_take : Fn1 P w K mg base "_law_take" 1 [] 2 0 (fun ds _ => ds) (sp_l_take a))
    {f : Addr} {cdv : Value} {A : Around} {outer : List Env} {s : Shared} {H : Hp} {E : XK} (hr : Room 1 (A.deeper (envOfC "_law_names" (defScope s_l_names) s.heap.objs.size f cdv))) :
    DenB (cxOf (L2.CX P w) P w K mg base N_l_names "_law_names" (defScope s_l_names) f cdv A outer s H E) (defBody s_l_names) (t_l_names a) :=
  (db_cons (ds_set 2 sc_l_names.nd (de_ix (de_lst (da_cons de_str (da_cons de_str da_nil))) (de_f h_l_take (hr.mono (by decide)) (da_cons (de_var 0) (da_cons de_int da_nil)))))
  (db_cons (ds_set 3 sc_l_names.nd (de_lstM da_nil))
  (db_cons (ds_for (passes_of rfl) rfl (di_range1 F.b_range (da_cons (de_var 1) da_nil)) (dg_name 4 sc_l_names.nd) (db_cons (ds_set 5 sc_l_names.nd (de_bm PySem.F.plainAttrs_str PySem.F.slot_str_join PySem.F.type_str_join okm_join de_str (da_cons (de_lc (own := [("_law_turn", 9)]) false rfl rfl sc_l_names.nd (blkOk_by (own := [("_law_turn", 9)]) (N := N_l_names) (sc := defScope s_l_names) (by decide +kernel)) (di_range1 F.b_range (da_cons (de_bin ok_add de_int (de_f h_l_take (hr.mono (by decide)) (da_cons (de_var 0) (da_cons de_int da_nil)))) da_nil)) (fun _ _ _ _ _ => (dg_name 9 sc_l_names.nd)) (fun _ _ _ _ _ => dts_nil) (fun _ _ _ _ _ => (de_ix (de_var 2) (de_f h_l_take (hr.mono (by decide)) (da_cons (de_var 0) (da_cons (de_cb okc_len F.b_len boot_len (da_cons (de_var 2) da_nil)) da_nil)))))) da_nil)))
  (db_cons (ds_set 6 sc_l_names.nd (de_f h_l_take (hr.mono (by decide)) (da_cons (de_var 0) (da_cons (de_cb okc_len F.b_len boot_len (da_cons (de_var 5) da_nil)) da_nil))))
  (db_cons (ds_set 7 sc_l_names.nd (de_bin ok_add (de_lst (da_cons (de_var 5) da_nil)) (de_lc (own := [("_law_letter", 10)]) false rfl rfl sc_l_names.nd (blkOk_by (own := [("_law_letter", 10)]) (N := N_l_names) (sc := defScope s_l_names) (by decide +kernel)) (di_str de_str) (fun _ _ _ _ _ => (dg_name 10 sc_l_names.nd)) (fun _ _ _ _ _ => dts_nil) (fun _ _ _ _ _ => (de_bin ok_add (de_bin ok_add (de_sl (de_var 5) do_none (do_some (de_var 6))) (de_var 10)) (de_sl (de_var 5) (do_some (de_bin ok_add (de_var 6) de_int)) do_none))))))
  (db_cons (ds_setLc (own := [("_law_one", 8)]) false 7 rfl rfl sc_l_names.nd (blkOk_by (own := [("_law_one", 8)]) (N := N_l_names) (sc := defScope s_l_names) (by decide +kernel)) (di_list (de_var 7)) (fun _ _ _ _ _ => (dg_name 8 sc_l_names.nd)) (fun _ _ _ _ _ => (dts_one (dt_cmp ok_notin (de_var 8) (de_var 3)))) (fun _ _ _ _ _ => (de_var 8)) (sw_true rfl rfl rfl (by decide +kernel)))
  (db_one (ds_expr (de_bm PySem.F.plainAttrs_list PySem.F.slot_list_append PySem.F.type_list_append okm_append (de_var 3) (da_cons (de_ix (de_var 7) de_int) da_nil)))))))))
  (db_one (ds_ret (de_frz (de_var 3)))))))
--@ _law_tongue
abbrev s_l_tongue : Stmt := topS 29
abbrev N_l_tongue : List Str := ["_law_pool_here", "_law_many", "_law_digits", "_law_size", "_law_names_here"]
theorem sc_l_tongue : FnScope N_l_tongue ["_law_pool_here", "_law_many", "_law_digits"] (defScope s_l_tongue) := ⟨rfl, rfl, rfl, by decide +kernel, rfl, by decide +kernel, by decide +kernel⟩
def t_l_tongue (a : Ad) : AS :=
  (aSeq (aAsg (aCall (sp_l_take a) (fun ds _ => ds) 2 (aCons (aVar 0) (aCons (aBin AddA (aVar 1) (aC (.int 1))) aNil))) (gNameA 3))
  (aSeq (aAsg (aCall (sp_l_names a) (fun ds _ => ds) 2 (aCons (aVar 0) (aCons (aBin AddA (aVar 3) (aCall (sp_l_take a) (fun ds _ => ds) 2 (aCons (aVar 0) (aCons (aBin AddA (aVar 2) (aC (.int 1))) aNil)))) aNil))) (gNameA 4))
  (aRet (aTup (aCons (aCB TupleNA (aCons (aCB SortedA (aCons (aSl (aVar 4) aNoPart (aPart (aVar 3))) aNil)) aNil)) (aCons (aCB TupleNA (aCons (aCB SortedA (aCons (aSl (aVar 4) (aPart (aVar 3)) aNoPart) aNil)) aNil)) aNil))))))
theorem den_l_tongue (F : Fx P w K mg a)
    (h_l_take : Fn1 P w K mg base "_law_take" 1 [] 2 0 (fun ds _ => ds) (sp_l_take a))
    (h_l_names : Fn1 P w K mg base "_law_names" 2 [] 2 0 (fun ds _ => ds) (sp_l_names a))
    {f : Addr} {cdv : Value} {A : Around} {outer : List Env} {s : Shared} {H : Hp} {E : XK} (hr : Room 2 (A.deeper (envOfC "_law_tongue" (defScope s_l_tongue) s.heap.objs.size f cdv))) :
    DenB (cxOf (L2.CX P w) P w K mg base N_l_tongue "_law_tongue" (defScope s_l_tongue) f cdv A outer s H E) (defBody s_l_tongue) (t_l_tongue a) :=
  (db_cons (ds_set 3 sc_l_tongue.nd (de_f h_l_take (hr.mono (by decide)) (da_cons (de_var 0) (da_cons (de_bin ok_add (de_var 1) de_int) da_nil))))
  (db_cons (ds_set 4 sc_l_tongue.nd (de_f h_l_names (hr.mono (by decide)) (da_cons (de_var 0) (da_cons (de_bin ok_add (de_var 3) (de_f h_l_take (hr.mono (by decide)) (da_cons (de_var 0) (da_cons (de_bin ok_add (de_var 2) de_int) da_nil)))) da_nil))))
  (db_one (ds_ret (de_tup (da_cons (de_ct okc_tupleN F.b_tuple boot_tuple (da_cons (de_cb okc_sorted F.b_sorted boot_sorted (da_cons (de_sl (de_var 4) do_none (do_some (de_var 3))) da_nil)) da_nil)) (da_cons (de_ct okc_tupleN F.b_tuple boot_tuple (da_cons (de_cb okc_sorted F.b_sorted boot_sorted (da_cons (de_sl (de_var 4) (do_some (de_var 3)) do_none) da_nil)) da_nil)) da_nil)))))))
--@ _law_odd
abbrev s_l_odd : Stmt := topS 30
abbrev N_l_odd : List Str := ["_law_pool_here", "_law_some"]
theorem sc_l_odd : FnScope N_l_odd ["_law_pool_here"] (defScope s_l_odd) := ⟨rfl, rfl, rfl, by decide +kernel, rfl, by decide +kernel, by decide +kernel⟩
def t_l_odd (a : Ad) : AS :=
  (aSeq (aAsg (aLst (aCons (aC .non) (aCons (aC (.bl true)) (aCons (aC (.bl false)) (aCons (aC (.int 0)) (aCons (aUn NegA (aC (.int 1))) (aCons (aC (.int 1)) (aCons (aBin SubA (aBin PowA (aC (.int 10)) (aC (.int 30))) (aC (.int 1))) (aCons (aC (.str "")) (aCons (aC (.str "a")) (aCons (aC (.str "12")) (aCons (aTup aNil) (aCons (aTup (aCons (aC (.str "a")) aNil)) (aCons (aLst aNil) (aCons (aLst (aCons (aC (.str "a")) aNil)) aNil))))))))))))))) (gNameA 1))
  (aSeq (aAsg (aBin AddA (aVar 1) (aLst (aCons (aC (.dic [])) (aCons (aC (.dic [(.inr "a", .int 1)])) (aCons (aTup (aCons (aC .non) aNil)) (aCons (aLst (aCons (aTup aNil) aNil)) aNil)))))) (gNameA 1))
  (aRet (aBin IxA (aVar 1) (aCall (sp_l_take a) (fun ds _ => ds) 2 (aCons (aVar 0) (aCons (aCB LenA (aCons (aVar 1) aNil)) aNil)))))))
theorem den_l_odd (F : Fx P w K mg a)
    (h_l_take : Fn1 P w K mg base "_law_take" 1 [] 2 0 (fun ds _ => ds) (sp_l_take a))
    {f : Addr} {cdv : Value} {A : Around} {outer : List Env} {s : Shared} {H : Hp} {E : XK} (hr : Room 1 (A.deeper (envOfC "_law_odd" (defScope s_l_odd) s.heap.objs.size f cdv))) :
    DenB (cxOf (L2.CX P w) P w K mg base N_l_odd "_law_odd" (defScope s_l_odd) f cdv A outer s H E) (defBody s_l_odd) (t_l_odd a) :=
  (db_cons (ds_set 1 sc_l_odd.nd (de_lst (da_cons de_non (da_cons de_bl (da_cons de_bl (da_cons de_int (da_cons (de_un ok_neg de_int) (da_cons de_int (da_cons (de_bin ok_sub (de_bin ok_pow de_int de_int) de_int) (da_cons de_str (da_cons de_str (da_cons de_str (da_cons (de_tup da_nil) (da_cons (de_tup (da_cons de_str da_nil)) (da_cons (de_lst da_nil) (da_cons (de_lst (da_cons de_str da_nil)) da_nil))))))))))))))))
  (db_cons (ds_set 1 sc_l_odd.nd (de_bin ok_add (de_var 1) (de_lst (da_cons de_dic0 (da_cons (de_dic1 pe_str pe_int) (da_cons (de_tup (da_cons de_non da_nil)) (da_cons (de_lst (da_cons (de_tup da_nil) da_nil)) da_nil)))))))
  (db_one (ds_ret (de_ix (de_var 1) (de_f h_l_take (hr.mono (by decide)) (da_cons (de_var 0) (da_cons (de_cb okc_len F.b_len boot_len (da_cons (de_var 1) da_nil)) da_nil))))))))
--@ _law_bent
abbrev s_l_bent : Stmt := topS 31
abbrev N_l_bent : List Str := ["_law_pool_here", "_law_thing", "_law_deep", "_law_down", "_law_way", "_law_at", "_law_sign", "_law_some"]
theorem sc_l_bent : FnScope N_l_bent ["_law_pool_here", "_law_thing", "_law_deep"] (defScope s_l_bent) := ⟨rfl, rfl, rfl, by decide +kernel, rfl, by decide +kernel, by decide +kernel⟩
def t_l_bent (a : Ad) : AS :=
  (aSeq (aAsg (aCall (sp_l_take a) (fun ds _ => ds) 2 (aCons (aVar 0) (aCons (aC (.int 5)) aNil))) (gNameA 3))
  (aSeq (aIfS (aAnd (aTru (aCB IsiA (aCons (aVar 1) (aCons (aC (.ty "tuple")) aNil)))) (aAnd (aB (aBin NeA (aVar 1) (aTup aNil))) (aAnd (aB (aBin GtA (aVar 2) (aC (.int 0)))) (aB (aBin GtA (aVar 3) (aC (.int 0)))))))
  (aSeq (aAsg (aCall (sp_l_take a) (fun ds _ => ds) 2 (aCons (aVar 0) (aCons (aCB LenA (aCons (aVar 1) aNil)) aNil))) (gNameA 5))
  aNeverS)
  aNext)
  (aSeq (aAsg (aCall (sp_l_take a) (fun ds _ => ds) 2 (aCons (aVar 0) (aCons (aC (.int 8)) aNil))) (gNameA 4))
  (aSeq (aIfS (aB (aBin EqA (aVar 4) (aC (.int 7))))
  (aRet (aCall (sp_l_odd a) (fun ds _ => ds) 1 (aCons (aVar 0) aNil)))
  aNext)
  (aSeq (aIfS (aTru (aCB IsiA (aCons (aVar 1) (aCons (aC (.ty "tuple")) aNil))))
  (aRet (aBin IxA (aLst (aCons (aCB ListA (aCons (aVar 1) aNil)) (aCons (aSl (aVar 1) aNoPart (aPart (aUn NegA (aC (.int 1))))) (aCons (aSl (aVar 1) (aPart (aC (.int 1))) aNoPart) (aCons (aBin AddA (aVar 1) (aSl (aVar 1) (aPart (aUn NegA (aC (.int 1)))) aNoPart)) (aCons (aStep (aVar 1) (aUn NegA (aC (.int 1)))) (aCons (aTup (aCons (aVar 1) aNil)) (aCons (aTup aNil) aNil)))))))) (aVar 4)))
  aNext)
  (aSeq (aIfS (aAnd (aTru (aCB IsiA (aCons (aVar 1) (aCons (aC (.ty "str")) aNil)))) (aB (aBin NeA (aVar 1) (aC (.str "")))))
  (aSeq (aAsg (aCall (sp_l_take a) (fun ds _ => ds) 2 (aCons (aVar 0) (aCons (aCB LenA (aCons (aVar 1) aNil)) aNil))) (gNameA 5))
  (aSeq (aAsg (aBin IxA (aC (.str "abz A_0{`\n")) (aCall (sp_l_take a) (fun ds _ => ds) 2 (aCons (aVar 0) (aCons (aC (.int 10)) aNil)))) (gNameA 6))
  (aSeq (aAsg (aLst (aCons (aBin AddA (aBin AddA (aSl (aVar 1) aNoPart (aPart (aVar 5))) (aVar 6)) (aSl (aVar 1) (aPart (aBin AddA (aVar 5) (aC (.int 1)))) aNoPart)) (aCons (aBin AddA (aBin AddA (aSl (aVar 1) aNoPart (aPart (aVar 5))) (aVar 6)) (aSl (aVar 1) (aPart (aVar 5)) aNoPart)) aNil))) (gNameA 7))
  (aSeq (aAsg (aBin AddA (aVar 7) (aLst (aCons (aBin AddA (aSl (aVar 1) aNoPart (aPart (aVar 5))) (aSl (aVar 1) (aPart (aBin AddA (aVar 5) (aC (.int 1)))) aNoPart)) (aCons (aBin MulSA (aVar 1) (aC (.int 2))) aNil)))) (gNameA 7))
  (aRet (aBin IxA (aBin AddA (aVar 7) (aLst (aCons (aStep (aVar 1) (aUn NegA (aC (.int 1)))) (aCons (aTup (aCons (aVar 1) aNil)) (aCons (aLst (aCons (aVar 1) aNil)) aNil))))) (aVar 4)))))))
  aNext)
  (aSeq (aIfS (aAnd (aTru (aCB IsiA (aCons (aVar 1) (aCons (aC (.ty "int")) aNil)))) (aNot (aTru (aCB IsiA (aCons (aVar 1) (aCons (aC (.ty "bool")) aNil))))))
  (aRet (aBin IxA (aLst (aCons (aBin AddA (aVar 1) (aC (.int 1))) (aCons (aBin SubA (aVar 1) (aC (.int 1))) (aCons (aUn NegA (aVar 1)) (aCons (aC (.int 0)) (aCons (aCB StrA (aCons (aVar 1) aNil)) (aCons (aLst (aCons (aVar 1) aNil)) (aCons (aBin EqA (aVar 1) (aC (.int 1))) aNil)))))))) (aVar 4)))
  aNext)
  (aRet (aVar 1)))))))))
theorem den_l_bent (F : Fx P w K mg a)
    (h_l_take : Fn1 P w K mg base "_law_take" 1 [] 2 0 (fun ds _ => ds) (sp_l_take a))
    (h_l_odd : Fn1 P w K mg base "_law_odd" 2 [] 1 0 (fun ds _ => ds) (sp_l_odd a))
    {f : Addr} {cdv : Value} {A : Around} {outer : List Env} {s : Shared} {H : Hp} {E : XK} (hr : Room 2 (A.deeper (envOfC "_law_bent" (defScope s_l_bent) s.heap.objs.size f cdv))) :
    DenB (cxOf (L2.CX P w) P w K mg base N_l_bent "_law_bent" (defScope s_l_bent) f cdv A outer s H E) (defBody s_l_bent) (t_l_bent a) :=
  (db_cons (ds_set 3 sc_l_bent.nd (de_f h_l_take (hr.mono (by decide)) (da_cons (de_var 0) (da_cons de_int da_nil))))
  (db_cons (ds_if (DenW.t (dw_and (dt_tru (de_cb okc_isi F.b_isinstance boot_isinstance (da_cons (de_var 1) (da_cons (de_bltn (d := .ty "tuple") (v := .ty "tuple") F.b_tuple boot_tuple rfl) da_nil)))) (dw_and (dt_cmp (ok_ne hr.units) (de_var 1) (de_tup da_nil)) (dw_and (dt_cmp ok_gt (de_var 2) de_int) (dw_and1 (dt_cmp ok_gt (de_var 3) de_int)))))) (db_cons (ds_set 5 sc_l_bent.nd (de_f h_l_take (hr.mono (by decide)) (da_cons (de_var 0) (da_cons (de_cb okc_len F.b_len boot_len (da_cons (de_var 1) da_nil)) da_nil))))
  (db_one ds_never)) db_nil)
  (db_cons (ds_set 4 sc_l_bent.nd (de_f h_l_take (hr.mono (by decide)) (da_cons (de_var 0) (da_cons de_int da_nil))))
  (db_cons (ds_if (dt_cmp (ok_eq hr.units) (de_var 4) de_int) (db_one (ds_ret (de_f h_l_odd (hr.mono (by decide)) (da_cons (de_var 0) da_nil)))) db_nil)
  (db_cons (ds_if (dt_tru (de_cb okc_isi F.b_isinstance boot_isinstance (da_cons (de_var 1) (da_cons (de_bltn (d := .ty "tuple") (v := .ty "tuple") F.b_tuple boot_tuple rfl) da_nil)))) (db_one (ds_ret (de_ix (de_lst (da_cons (de_ct okc_list F.b_list boot_list (da_cons (de_var 1) da_nil)) (da_cons (de_sl (de_var 1) do_none (do_some (de_un ok_neg de_int))) (da_cons (de_sl (de_var 1) (do_some de_int) do_none) (da_cons (de_bin ok_add (de_var 1) (de_sl (de_var 1) (do_some (de_un ok_neg de_int)) do_none)) (da_cons (de_step (de_var 1) (de_un ok_neg de_int)) (da_cons (de_tup (da_cons (de_var 1) da_nil)) (da_cons (de_tup da_nil) da_nil)))))))) (de_var 4)))) db_nil)
  (db_cons (ds_if (DenW.t (dw_and (dt_tru (de_cb okc_isi F.b_isinstance boot_isinstance (da_cons (de_var 1) (da_cons (de_bltn (d := .ty "str") (v := .ty "str") F.b_str boot_str rfl) da_nil)))) (dw_and1 (dt_cmp (ok_ne hr.units) (de_var 1) de_str)))) (db_cons (ds_set 5 sc_l_bent.nd (de_f h_l_take (hr.mono (by decide)) (da_cons (de_var 0) (da_cons (de_cb okc_len F.b_len boot_len (da_cons (de_var 1) da_nil)) da_nil))))
  (db_cons (ds_set 6 sc_l_bent.nd (de_ix de_str (de_f h_l_take (hr.mono (by decide)) (da_cons (de_var 0) (da_cons de_int da_nil)))))
  (db_cons (ds_set 7 sc_l_bent.nd (de_lst (da_cons (de_bin ok_add (de_bin ok_add (de_sl (de_var 1) do_none (do_some (de_var 5))) (de_var 6)) (de_sl (de_var 1) (do_some (de_bin ok_add (de_var 5) de_int)) do_none)) (da_cons (de_bin ok_add (de_bin ok_add (de_sl (de_var 1) do_none (do_some (de_var 5))) (de_var 6)) (de_sl (de_var 1) (do_some (de_var 5)) do_none)) da_nil))))
  (db_cons (ds_set 7 sc_l_bent.nd (de_bin ok_add (de_var 7) (de_lst (da_cons (de_bin ok_add (de_sl (de_var 1) do_none (do_some (de_var 5))) (de_sl (de_var 1) (do_some (de_bin ok_add (de_var 5) de_int)) do_none)) (da_cons (de_bin ok_mulS (de_var 1) de_int) da_nil)))))
  (db_one (ds_ret (de_ix (de_bin ok_add (de_var 7) (de_lst (da_cons (de_step (de_var 1) (de_un ok_neg de_int)) (da_cons (de_tup (da_cons (de_var 1) da_nil)) (da_cons (de_lst (da_cons (de_var 1) da_nil)) da_nil))))) (de_var 4)))))))) db_nil)
  (db_cons (ds_if (DenW.t (dw_and (dt_tru (de_cb okc_isi F.b_isinstance boot_isinstance (da_cons (de_var 1) (da_cons (de_bltn (d := .ty "int") (v := .ty "int") F.b_int boot_int rfl) da_nil)))) (dw_and1 (dt_not (dt_tru (de_cb okc_isi F.b_isinstance boot_isinstance (da_cons (de_var 1) (da_cons (de_bltn (d := .ty "bool") (v := .ty "bool") F.b_bool boot_bool rfl) da_nil)))))))) (db_one (ds_ret (de_ix (de_lst (da_cons (de_bin ok_add (de_var 1) de_int) (da_cons (de_bin ok_sub (de_var 1) de_int) (da_cons (de_un ok_neg (de_var 1)) (da_cons de_int (da_cons (de_ct okc_str F.b_str boot_str (da_cons (de_var 1) da_nil)) (da_cons (de_lst (da_cons (de_var 1) da_nil)) (da_cons (de_cmp (ok_eq hr.units) (de_var 1) de_int) da_nil)))))))) (de_var 4)))) db_nil)
  (db_one (ds_ret (de_var 1))))))))))
--@ _law_lies
abbrev s_l_lies : Stmt := topS 32
abbrev N_l_lies : List Str := ["_law_groups", "_law_region", "_law_name", "_law_bits", "_law_other"]
theorem sc_l_lies : FnScope N_l_lies ["_law_groups", "_law_region", "_law_name"] (defScope s_l_lies) := ⟨rfl, rfl, rfl, by decide +kernel, rfl, by decide +kernel, by decide +kernel⟩
def t_l_lies (a : Ad) : AS :=
  (aSeq (aAsg (aVar 1) (gNameA 3))
  (aSeq (aFor (iTupA (aWk (aVar 0))) (gNameA 4)
  (aSeq (aIfS (aB (aBin EqA (aVar 4) (aVar 2)))
  (aRet (aBin EqA (aBin ModA (aVar 3) (aC (.int 2))) (aC (.int 1))))
  aNext)
  (aAsg (aBin DivA (aVar 3) (aC (.int 2))) (gNameA 3))))
  (aRet (aC (.bl false)))))
theorem den_l_lies (F : Fx P w K mg a)
    {f : Addr} {cdv : Value} {A : Around} {outer : List Env} {s : Shared} {H : Hp} {E : XK} (hr : Room 0 (A.deeper (envOfC "_law_lies" (defScope s_l_lies) s.heap.objs.size f cdv))) :
    DenB (cxOf (L2.CX P w) P w K mg base N_l_lies "_law_lies" (defScope s_l_lies) f cdv A outer s H E) (defBody s_l_lies) (t_l_lies a) :=
  (db_cons (ds_set 3 sc_l_lies.nd (de_var 1))
  (db_cons (ds_for (passes_of rfl) rfl (di_tup (de_wk (de_var 0))) (dg_name 4 sc_l_lies.nd) (db_cons (ds_if (dt_cmp (ok_eq hr.units) (de_var 4) (de_var 2)) (db_one (ds_ret (de_cmp (ok_eq hr.units) (de_bin ok_mod (de_var 3) de_int) de_int))) db_nil)
  (db_one (ds_set 3 sc_l_lies.nd (de_bin ok_div (de_var 3) de_int)))))
  (db_one (ds_ret de_bl))))
--@ _law_is_name
abbrev s_l_is_name : Stmt := topS 33
abbrev N_l_is_name : List Str := ["_law_thing", "_law_letter"]
theorem sc_l_is_name : FnScope N_l_is_name ["_law_thing"] (defScope s_l_is_name) := ⟨rfl, rfl, rfl, by decide +kernel, rfl, by decide +kernel, by decide +kernel⟩
def t_l_is_name (a : Ad) : AS :=
  (aSeq (aIfS (aOr (aNot (aTru (aCB IsiA (aCons (aVar 0) (aCons (aC (.ty "str")) aNil))))) (aNot (aB (aChain LeA LeA (aC (.int 1)) (aCB LenA (aCons (aVar 0) aNil)) (aC (.int 8))))))
  (aRet (aC (.bl false)))
  aNext)
  (aRet (aBin EqA (aLcL [1] (iStrA (aVar 0)) (gNameA 1) (aNot (aB (aChain LeA LeA (aC (.str "a")) (aVar 1) (aC (.str "z"))))) (aVar 1) rFro) (aLst aNil))))
theorem den_l_is_name (F : Fx P w K mg a)
    {f : Addr} {cdv : Value} {A : Around} {outer : List Env} {s : Shared} {H : Hp} {E : XK} (hr : Room 0 (A.deeper (envOfC "_law_is_name" (defScope s_l_is_name) s.heap.objs.size f cdv))) :
    DenB (cxOf (L2.CX P w) P w K mg base N_l_is_name "_law_is_name" (defScope s_l_is_name) f cdv A outer s H E) (defBody s_l_is_name) (t_l_is_name a) :=
  (db_cons (ds_if (DenW.t (dw_or (dt_not (dt_tru (de_cb okc_isi F.b_isinstance boot_isinstance (da_cons (de_var 0) (da_cons (de_bltn (d := .ty "str") (v := .ty "str") F.b_str boot_str rfl) da_nil))))) (dw_or1 (dt_not (dt_chain ok_le ok_le de_int (de_cb okc_len F.b_len boot_len (da_cons (de_var 0) da_nil)) de_int))))) (db_one (ds_ret de_bl)) db_nil)
  (db_one (ds_ret (de_cmp (ok_eq hr.units) (de_lc (own := [("_law_letter", 1)]) false rfl rfl sc_l_is_name.nd (blkOk_by (own := [("_law_letter", 1)]) (N := N_l_is_name) (sc := defScope s_l_is_name) (by decide +kernel)) (di_str (de_var 0)) (fun _ _ _ _ _ => (dg_name 1 sc_l_is_name.nd)) (fun _ _ _ _ _ => (dts_one (dt_not (dt_chain ok_le ok_le de_str (de_var 1) de_str)))) (fun _ _ _ _ _ => (de_var 1))) (de_lst da_nil)))))
--@ _law_fresh
abbrev s_l_fresh : Stmt := topS 34
abbrev N_l_fresh : List Str := ["_law_pool_here", "_law_tongue_here", "_law_names_here", "_law_name"]
theorem sc_l_fresh : FnScope N_l_fresh ["_law_pool_here", "_law_tongue_here"] (defScope s_l_fresh) := ⟨rfl, rfl, rfl, by decide +kernel, rfl, by decide +kernel, by decide +kernel⟩
def t_l_fresh (a : Ad) : AS :=
  (aSeq (aAsg (aBin AddA (aWk (aBin IxA (aVar 1) (aC (.int 0)))) (aWk (aBin IxA (aVar 1) (aC (.int 1))))) (gNameA 2))
  (aRet (aBin IxA (aLcL [3] (iLstA (aCall (sp_l_names a) (fun ds _ => ds) 2 (aCons (aVar 0) (aCons (aBin AddA (aCB LenA (aCons (aVar 2) aNil)) (aC (.int 1))) aNil)))) (gNameA 3) (aB (aBin NotInA (aVar 3) (aVar 2))) (aVar 3) rFro) (aC (.int 0)))))
theorem den_l_fresh (F : Fx P w K mg a)
    (h_l_names : Fn1 P w K mg base "_law_names" 2 [] 2 0 (fun ds _ => ds) (sp_l_names a))
    {f : Addr} {cdv : Value} {A : Around} {outer : List Env} {s : Shared} {H : Hp} {E : XK} (hr : Room 2 (A.deeper (envOfC "_law_fresh" (defScope s_l_fresh) s.heap.objs.size f cdv))) :
    DenB (cxOf (L2.CX P w) P w K mg base N_l_fresh "_law_fresh" (defScope s_l_fresh) f cdv A outer s H E) (defBody s_l_fresh) (t_l_fresh a) :=
  (db_cons (ds_set 2 sc_l_fresh.nd (de_bin ok_add (de_wk (de_ix (de_var 1) de_int)) (de_wk (de_ix (de_var 1) de_int))))
  (db_one (ds_ret (de_ix (de_lc (own := [("_law_name", 3)]) false rfl rfl sc_l_fresh.nd (blkOk_by (own := [("_law_name", 3)]) (N := N_l_fresh) (sc := defScope s_l_fresh) (by decide +kernel)) (di_list (de_f h_l_names (hr.mono (by decide)) (da_cons (de_var 0) (da_cons (de_bin ok_add (de_cb okc_len F.b_len boot_len (da_cons (de_var 2) da_nil)) de_int) da_nil)))) (fun _ _ _ _ _ => (dg_name 3 sc_l_fresh.nd)) (fun _ _ _ _ _ => (dts_one (dt_cmp ok_notin (de_var 3) (de_var 2)))) (fun _ _ _ _ _ => (de_var 3))) de_int))))
--@ _law_few
abbrev s_l_few : Stmt := topS 35
abbrev N_l_few : List Str := ["_law_pool_here", "_law_tongue_here", "_law_many", "_law_top", "_law_counts", "_law_turn", "_law_region", "_law_name"]
theorem sc_l_few : FnScope N_l_few ["_law_pool_here", "_law_tongue_here", "_law_many", "_law_top"] (defScope s_l_few) := ⟨rfl, rfl, rfl, by decide +kernel, rfl, by decide +kernel, by decide +kernel⟩
def t_l_few (a : Ad) : AS :=
  (aSeq (aAsg (aLcL [6] (iRngA1 (aCons (aBin IxA (aLst (aCons (aC (.int 1)) (aCons (aC (.int 2)) (aCons (aC (.int 4)) (aCons (aC (.int 8)) aNil))))) (aCB LenA (aCons (aWk (aBin IxA (aVar 1) (aC (.int 0)))) aNil))) aNil)) (gNameA 6) aYes (aC (.int 0)) rMut) (gNameA 4))
  (aSeq (aFor (iRngA1 (aCons (aCall (sp_l_take a) (fun ds _ => ds) 2 (aCons (aVar 0) (aCons (aBin AddA (aVar 2) (aC (.int 1))) aNil))) aNil)) (gNameA 5)
  (aAugS false (aVar 4) (aCall (sp_l_take a) (fun ds _ => ds) 2 (aCons (aVar 0) (aCons (aCB LenA (aCons (aVar 4) aNil)) aNil))) (aC (.int 1))))
  (aRet (aTup (aCons (aCB TupleA (aCons (aVar 4) aNil)) (aCons (aCB TupleA (aCons (aLcL [7] (iTupA (aWk (aBin IxA (aVar 1) (aC (.int 1))))) (gNameA 7) aYes (aCall (sp_l_take a) (fun ds _ => ds) 2 (aCons (aVar 0) (aCons (aBin AddA (aVar 3) (aC (.int 1))) aNil))) rFro) aNil)) aNil))))))
theorem den_l_few (F : Fx P w K mg a)
    (h_l_take : Fn1 P w K mg base "_law_take" 1 [] 2 0 (fun ds _ => ds) (sp_l_take a))
    {f : Addr} {cdv : Value} {A : Around} {outer : List Env} {s : Shared} {H : Hp} {E : XK} (hr : Room 1 (A.deeper (envOfC "_law_few" (defScope s_l_few) s.heap.objs.size f cdv))) :
    DenB (cxOf (L2.CX P w) P w K mg base N_l_few "_law_few" (defScope s_l_few) f cdv A outer s H E) (defBody s_l_few) (t_l_few a) :=
  (db_cons (ds_setLc (own := [("_law_region", 6)]) true 4 rfl rfl sc_l_few.nd (blkOk_by (own := [("_law_region", 6)]) (N := N_l_few) (sc := defScope s_l_few) (by decide +kernel)) (di_range1 F.b_range (da_cons (de_ix (de_lst (da_cons de_int (da_cons de_int (da_cons de_int (da_cons de_int da_nil))))) (de_cb okc_len F.b_len boot_len (da_cons (de_wk (de_ix (de_var 1) de_int)) da_nil))) da_nil)) (fun _ _ _ _ _ => (dg_name 6 sc_l_few.nd)) (fun _ _ _ _ _ => dts_nil) (fun _ _ _ _ _ => de_int) (sw_true rfl rfl rfl (by decide +kernel)))
  (db_cons (ds_for (passes_of rfl) rfl (di_range1 F.b_range (da_cons (de_f h_l_take (hr.mono (by decide)) (da_cons (de_var 0) (da_cons (de_bin ok_add (de_var 2) de_int) da_nil))) da_nil)) (dg_name 5 sc_l_few.nd) (db_one (ds_augS false rfl (de_var 4) (de_f h_l_take (hr.mono (by decide)) (da_cons (de_var 0) (da_cons (de_cb okc_len F.b_len boot_len (da_cons (de_var 4) da_nil)) da_nil))) de_int)))
  (db_one (ds_ret (de_tup (da_cons (de_ct okc_tuple F.b_tuple boot_tuple (da_cons (de_var 4) da_nil)) (da_cons (de_ct okc_tuple F.b_tuple boot_tuple (da_cons (de_lc (own := [("_law_name", 7)]) false rfl rfl sc_l_few.nd (blkOk_by (own := [("_law_name", 7)]) (N := N_l_few) (sc := defScope s_l_few) (by decide +kernel)) (di_tup (de_wk (de_ix (de_var 1) de_int))) (fun _ _ _ _ _ => (dg_name 7 sc_l_few.nd)) (fun _ _ _ _ _ => dts_nil) (fun _ _ _ _ _ => (de_f h_l_take (hr.mono (by decide)) (da_cons (de_var 0) (da_cons (de_bin ok_add (de_var 3) de_int) da_nil))))) da_nil)) da_nil)))))))
--@ _law_shares
abbrev s_l_shares : Stmt := topS 36
abbrev N_l_shares : List Str := ["_law_groups", "_law_counts", "_law_name", "_law_wide", "_law_spots", "_law_region", "_law_rows", "_law_here", "_law_one", "_law_more", "_law_inside", "_law_row", "_law_old"]
theorem sc_l_shares : FnScope N_l_shares ["_law_groups", "_law_counts", "_law_name"] (defScope s_l_shares) := ⟨rfl, rfl, rfl, by decide +kernel, rfl, by decide +kernel, by decide +kernel⟩
def t_l_shares (a : Ad) : AS :=
  (aSeq (aAsg (aCB TupleNA (aCons (aCB SortedTA (aCons (aBin AddA (aWk (aVar 0)) (aTup (aCons (aVar 2) aNil))) aNil)) aNil)) (gNameA 3))
  (aSeq (aAsg (aLstM aNil) (gNameA 4))
  (aSeq (aFor (iRngA1 (aCons (aCB LenA (aCons (aVar 1) aNil)) aNil)) (gNameA 5)
  (aSeq (aAsg (aLstM aNil) (gNameA 7))
  (aSeq (aFor (iRngA1 (aCons (aBin MulA (aC (.int 2)) (aCB LenA (aCons (aVar 1) aNil))) aNil)) (gNameA 8)
  (aIfS (aB (aBin EqA (aLcL [12] (iTupA (aWk (aVar 0))) (gNameA 12) (aB (aBin NeA (aCall (sp_l_lies a) (fun ds _ => ds) 3 (aCons (aWk (aVar 3)) (aCons (aVar 8) (aCons (aVar 12) aNil)))) (aCall (sp_l_lies a) (fun ds _ => ds) 3 (aCons (aWk (aVar 0)) (aCons (aVar 5) (aCons (aVar 12) aNil)))))) (aC (.int 1)) rFro) (aLst aNil)))
  (aDrop (aBM "list" AppA (aVar 7) (aCons (aFrz (aVar 8)) aNil)))
  aNext))
  (aDrop (aBM "list" AppA (aVar 4) (aCons (aFrz (aVar 7)) aNil))))))
  (aSeq (aAsg (aLst (aCons (aLcL [8] (iRngA1 (aCons (aBin MulA (aC (.int 2)) (aCB LenA (aCons (aVar 1) aNil))) aNil)) (gNameA 8) aYes (aC (.int 0)) rFro) aNil)) (gNameA 6))
  (aSeq (aFor (iEnumA (aCons (aFrz (aVar 4)) aNil)) (gTupA 2 (gConsA (gNameA 5) (gConsA (gNameA 7) gNilA)))
  (aSeq (aAsg (aLstM aNil) (gNameA 9))
  (aSeq (aFor (iRngA1 (aCons (aBin AddA (aBin IxA (aVar 1) (aVar 5)) (aC (.int 1))) aNil)) (gNameA 10)
  (aFor (iLstA (aVar 6)) (gNameA 11)
  (aSeq (aAsg (aCB ListMA (aCons (aVar 11) aNil)) (gNameA 8))
  (aSeq (aAsg (aBin SubA (aBin IxA (aVar 1) (aVar 5)) (aVar 10)) (gSetL (aVar 8) (aBin IxA (aVar 7) (aC (.int 0)))))
  (aSeq (aAsg (aVar 10) (gSetL (aVar 8) (aBin IxA (aVar 7) (aC (.int 1)))))
  (aDrop (aBM "list" AppA (aVar 9) (aCons (aFrz (aVar 8)) aNil))))))))
  (aAsg (aFrz (aVar 9)) (gNameA 6)))))
  (aRet (aCB SortPA (aCons (aLcL [11] (iLstA (aVar 6)) (gNameA 11) aYes (aCB TupleA (aCons (aVar 11) aNil)) rFro) aNil))))))))
theorem den_l_shares (F : Fx P w K mg a)
    (h_l_lies : Fn1 P w K mg base "_law_lies" 1 [] 3 0 (fun ds _ => ds) (sp_l_lies a))
    {f : Addr} {cdv : Value} {A : Around} {outer : List Env} {s : Shared} {H : Hp} {E : XK} (hr : Room 1 (A.deeper (envOfC "_law_shares" (defScope s_l_shares) s.heap.objs.size f cdv))) :
    DenB (cxOf (L2.CX P w) P w K mg base N_l_shares "_law_shares" (defScope s_l_shares) f cdv A outer s H E) (defBody s_l_shares) (t_l_shares a) :=
  (db_cons (ds_set 3 sc_l_shares.nd (de_ct okc_tupleN F.b_tuple boot_tuple (da_cons (de_cb okc_sortedT F.b_sorted boot_sorted (da_cons (de_bin ok_add (de_wk (de_var 0)) (de_tup (da_cons (de_var 2) da_nil))) da_nil)) da_nil)))
  (db_cons (ds_set 4 sc_l_shares.nd (de_lstM da_nil))
  (db_cons (ds_for (passes_of rfl) rfl (di_range1 F.b_range (da_cons (de_cb okc_len F.b_len boot_len (da_cons (de_var 1) da_nil)) da_nil)) (dg_name 5 sc_l_shares.nd) (db_cons (ds_set 7 sc_l_shares.nd (de_lstM da_nil))
  (db_cons (ds_for (passes_of rfl) rfl (di_range1 F.b_range (da_cons (de_bin ok_mul de_int (de_cb okc_len F.b_len boot_len (da_cons (de_var 1) da_nil))) da_nil)) (dg_name 8 sc_l_shares.nd) (db_one (ds_if (dt_cmp (ok_eq hr.units) (de_lc (own := [("_law_old", 12)]) false rfl rfl sc_l_shares.nd (blkOk_by (own := [("_law_old", 12)]) (N := N_l_shares) (sc := defScope s_l_shares) (by decide +kernel)) (di_tup (de_wk (de_var 0))) (fun _ _ _ _ _ => (dg_name 12 sc_l_shares.nd)) (fun _ _ _ _ _ => (dts_one (dt_cmp (ok_ne hr.units) (de_f h_l_lies (hr.mono (by decide)) (da_cons (de_wk (de_var 3)) (da_cons (de_var 8) (da_cons (de_var 12) da_nil)))) (de_f h_l_lies (hr.mono (by decide)) (da_cons (de_wk (de_var 0)) (da_cons (de_var 5) (da_cons (de_var 12) da_nil))))))) (fun _ _ _ _ _ => de_int)) (de_lst da_nil)) (db_one (ds_expr (de_bm PySem.F.plainAttrs_list PySem.F.slot_list_append PySem.F.type_list_append okm_append (de_var 7) (da_cons (de_frz (de_var 8)) da_nil)))) db_nil)))
  (db_one (ds_expr (de_bm PySem.F.plainAttrs_list PySem.F.slot_list_append PySem.F.type_list_append okm_append (de_var 4) (da_cons (de_frz (de_var 7)) da_nil)))))))
  (db_cons (ds_set 6 sc_l_shares.nd (de_lst (da_cons (de_lc (own := [("_law_one", 8)]) false rfl rfl sc_l_shares.nd (blkOk_by (own := [("_law_one", 8)]) (N := N_l_shares) (sc := defScope s_l_shares) (by decide +kernel)) (di_range1 F.b_range (da_cons (de_bin ok_mul de_int (de_cb okc_len F.b_len boot_len (da_cons (de_var 1) da_nil))) da_nil)) (fun _ _ _ _ _ => (dg_name 8 sc_l_shares.nd)) (fun _ _ _ _ _ => dts_nil) (fun _ _ _ _ _ => de_int)) da_nil)))
  (db_cons (ds_for (passes_of rfl) rfl (di_enum F.b_enumerate (da_cons (de_frz (de_var 4)) da_nil)) (dg_tup rfl (dgs_cons (dg_name 5 sc_l_shares.nd) (dgs_cons (dg_name 7 sc_l_shares.nd) dgs_nil))) (db_cons (ds_set 9 sc_l_shares.nd (de_lstM da_nil))
  (db_cons (ds_for (passes_of rfl) rfl (di_range1 F.b_range (da_cons (de_bin ok_add (de_ix (de_var 1) (de_var 5)) de_int) da_nil)) (dg_name 10 sc_l_shares.nd) (db_one (ds_for (passes_of rfl) rfl (di_list (de_var 6)) (dg_name 11 sc_l_shares.nd) (db_cons (ds_set 8 sc_l_shares.nd (de_ct okc_listM F.b_list boot_list (da_cons (de_var 11) da_nil)))
  (db_cons (ds_asg (de_bin ok_sub (de_ix (de_var 1) (de_var 5)) (de_var 10)) (dg_sub (de_var 8) (de_ix (de_var 7) de_int)))
  (db_cons (ds_asg (de_var 10) (dg_sub (de_var 8) (de_ix (de_var 7) de_int)))
  (db_one (ds_expr (de_bm PySem.F.plainAttrs_list PySem.F.slot_list_append PySem.F.type_list_append okm_append (de_var 9) (da_cons (de_frz (de_var 8)) da_nil))))))))))
  (db_one (ds_set 6 sc_l_shares.nd (de_frz (de_var 9)))))))
  (db_one (ds_ret (de_cb (okc_sortP hr.u200) F.b_sorted boot_sorted (da_cons (de_lc (own := [("_law_row", 11)]) false rfl rfl sc_l_shares.nd (blkOk_by (own := [("_law_row", 11)]) (N := N_l_shares) (sc := defScope s_l_shares) (by decide +kernel)) (di_list (de_var 6)) (fun _ _ _ _ _ => (dg_name 11 sc_l_shares.nd)) (fun _ _ _ _ _ => dts_nil) (fun _ _ _ _ _ => (de_ct okc_tuple F.b_tuple boot_tuple (da_cons (de_var 11) da_nil)))) da_nil)))))))))
--@ _law_refused
abbrev s_l_refused : Stmt := topS 37
abbrev N_l_refused : List Str := ["_law_talk", "_law_world", "_law_name", "_law_caught", "e"]
theorem sc_l_refused : FnScope N_l_refused ["_law_talk", "_law_world", "_law_name"] (defScope s_l_refused) := ⟨rfl, rfl, rfl, by decide +kernel, rfl, by decide +kernel, by decide +kernel⟩
def t_l_refused (a : Ad) : AS :=
  (aSeq (aAsg (aC .non) (gNameA 3))
  (aSeq (aTryK 4 3 [a.NoTalk] []
  (aDrop (aCall (sp_shares a) (fun ds _ => ds) 3 (aCons (aVar 0) (aCons (aVar 1) (aCons (aVar 2) aNil))))))
  (aSeq (aIfS (aB (aBin IsA (aVar 3) (aC .non)))
  (aRet (aC (.bl false)))
  aNext)
  (aRet (aIf (aAnd (aTru (aCB (IsiXA (isxTab a)) (aCons (aVar 3) (aCons (aC (.ref a.NoTalk)) aNil)))) (aNot (aTru (aCB (IsiXA (isxTab a)) (aCons (aVar 3) (aCons (aTup (aCons (aC (.ref a.NoSaying)) (aCons (aC (.ref a.NoWorld)) aNil))) aNil)))))) (aC (.bl true)) (aC .non))))))
theorem den_l_refused (F : Fx P w K mg a)
    (h_shares : Fn1 P w K mg base "shares" 7 [] 3 0 (fun ds _ => ds) (sp_shares a))
    {f : Addr} {cdv : Value} {A : Around} {outer : List Env} {s : Shared} {H : Hp} {E : XK} (hr : Room 7 (A.deeper (envOfC "_law_refused" (defScope s_l_refused) s.heap.objs.size f cdv))) :
    DenB (cxOf (L2.CX P w) P w K mg base N_l_refused "_law_refused" (defScope s_l_refused) f cdv A outer s H E) (defBody s_l_refused) (t_l_refused a) :=
  (db_cons (ds_set 3 sc_l_refused.nd de_non)
  (db_cons (ds_tryKeep (i := 4) (j := 3) ⟨rfl, by decide, Or.inl F.g_FoldError⟩ (fun _ _ hps => (db_one (ds_expr (de_f h_shares (hr.mono (by decide)) (da_cons (de_var 0) (da_cons (de_var 1) (da_cons (de_var 2) da_nil))))))) F.ty_FoldError F.tn_FoldError sc_l_refused.nd)
  (db_cons (ds_if (dt_cmp ok_is (de_var 3) de_non) (db_one (ds_ret de_bl)) db_nil)
  (db_one (ds_ret (de_if (DenW.t (dw_and (dt_tru (de_cb (okc_isiX F.isx F.isx1) F.b_isinstance boot_isinstance (da_cons (de_var 3) (da_cons (de_glob (d := .ref a.NoTalk) (v := .ref a.NoTalk) F.g_NoTalk rfl) da_nil)))) (dw_and1 (dt_not (dt_tru (de_cb (okc_isiX F.isx F.isx1) F.b_isinstance boot_isinstance (da_cons (de_var 3) (da_cons (de_tup (da_cons (de_glob (d := .ref a.NoSaying) (v := .ref a.NoSaying) F.g_NoSaying rfl) (da_cons (de_glob (d := .ref a.NoWorld) (v := .ref a.NoWorld) F.g_NoWorld rfl) da_nil))) da_nil)))))))) de_bl de_non))))))
--@ law
abbrev s_law : Stmt := topS 38
abbrev N_law : List Str := ["_law_script", "_law_k", "_law_pool_here", "_law_tongue_here", "_law_top", "_law_talk", "_law_world", "_law_kept", "_law_fresh_here", "_law_names_here", "_law_name", "_law_good", "_law_due", "_law_told", "_law_many", "_law_count", "_law_wide", "_law_counts", "_law_share"]
theorem sc_law : FnScope N_law ["_law_script"] (defScope s_law) := ⟨rfl, rfl, rfl, by decide +kernel, rfl, by decide +kernel, by decide +kernel⟩
def t_law (a : Ad) : AS :=
  (aSeq (aFor (iRngA1 (aCons (aCB MaxA (aCons (aC (.int 1)) (aCons (aCB MinA (aCons (aC (.int 8)) (aCons (aCB LenA (aCons (aVar 0) aNil)) aNil))) aNil))) aNil)) (gNameA 1)
  (aSeq (aAsg (aCall (sp_l_pool a) (fun ds _ => ds) 2 (aCons (aVar 0) (aCons (aVar 1) aNil))) (gNameA 2))
  (aSeq (aAsg (aCall (sp_l_tongue a) (fun ds _ => ds) 3 (aCons (aVar 2) (aCons (aC (.int 3)) (aCons (aC (.int 2)) aNil)))) (gNameA 3))
  (aSeq (aAsg (aBin AddA (aC (.int 5)) (aCall (sp_l_take a) (fun ds _ => ds) 2 (aCons (aVar 2) (aCons (aC (.int 16)) aNil)))) (gNameA 4))
  (aSeq (aAsg (aMk false a.Talk (sp_Talk_init a) (fun ds es => ds ++ es) 2 1 (aCons (aWk (aBin IxA (aVar 3) (aC (.int 0)))) (aCons (aWk (aBin IxA (aVar 3) (aC (.int 1)))) aNil)) (aCons (aVar 4) aNil)) (gNameA 5))
  (aSeq (aAsg (aCall (sp_l_few a) (fun ds _ => ds) 4 (aCons (aVar 2) (aCons (aVar 3) (aCons (aC (.int 5)) (aCons (aVar 4) aNil))))) (gNameA 6))
  (aSeq (aAsg (aCB ReprA (aCons (aVar 6) aNil)) (gNameA 7))
  (aSeq (aAsg (aCall (sp_l_fresh a) (fun ds _ => ds) 2 (aCons (aVar 2) (aCons (aVar 3) aNil))) (gNameA 8))
  (aSeq (aAsg (aBin AddA (aBin AddA (aCB ListA (aCons (aWk (aBin IxA (aVar 3) (aC (.int 0)))) aNil)) (aCB ListA (aCons (aWk (aBin IxA (aVar 3) (aC (.int 1)))) aNil))) (aLst (aCons (aVar 8) (aCons (aCall (sp_l_bent a) (fun ds _ => ds) 3 (aCons (aVar 2) (aCons (aVar 8) (aCons (aC (.int 1)) aNil)))) aNil)))) (gNameA 9))
  (aSeq (aFor (iLstA (aBin AddA (aVar 9) (aLst (aCons (aCall (sp_l_odd a) (fun ds _ => ds) 1 (aCons (aVar 2) aNil)) (aCons (aCall (sp_l_odd a) (fun ds _ => ds) 1 (aCons (aVar 2) aNil)) aNil))))) (gNameA 10)
  (aSeq (aAsg (aAndV (aCall (sp_l_is_name a) (fun ds _ => ds) 1 (aCons (aVar 10) aNil)) (aAndV (aBin NotInA (aVar 10) (aBin AddA (aWk (aBin IxA (aVar 3) (aC (.int 0)))) (aWk (aBin IxA (aVar 3) (aC (.int 1)))))) (aBin LtA (aCB LenA (aCons (aWk (aBin IxA (aVar 3) (aC (.int 0)))) aNil)) (aC (.int 3))))) (gNameA 11))
  (aIfS (aB (aBin NeA (aCall (sp_l_refused a) (fun ds _ => ds) 3 (aCons (aVar 5) (aCons (aVar 6) (aCons (aVar 10) aNil)))) (aNotV (aVar 11))))
  (aRet (aC (.bl false)))
  aNext)))
  (aSeq (aIfS (aB (aBin LtA (aCB LenA (aCons (aWk (aBin IxA (aVar 3) (aC (.int 0)))) aNil)) (aC (.int 3))))
  (aSeq (aAsg (aLcL [17] (iLstA (aCall (sp_l_shares a) (fun ds _ => ds) 3 (aCons (aWk (aBin IxA (aVar 3) (aC (.int 0)))) (aCons (aBin IxA (aVar 6) (aC (.int 0))) (aCons (aVar 8) aNil))))) (gNameA 17) aYes (aTup (aCons (aVar 17) (aCons (aBin IxA (aVar 6) (aC (.int 1))) aNil))) rFro) (gNameA 12))
  (aSeq (aAsg (aCall (sp_shares a) (fun ds _ => ds) 3 (aCons (aVar 5) (aCons (aVar 6) (aCons (aVar 8) aNil)))) (gNameA 13))
  (aSeq (aAsg (aC (.int 1)) (gNameA 14))
  (aSeq (aFor (iTupA (aBin IxA (aVar 6) (aC (.int 0)))) (gNameA 15)
  (aAsg (aBin MulA (aVar 14) (aBin AddA (aVar 15) (aC (.int 1)))) (gNameA 14)))
  (aSeq (aIfS (aOr (aB (aBin NeA (aCB ReprA (aCons (aVar 13) aNil)) (aCB ReprA (aCons (aVar 12) aNil)))) (aOr (aB (aBin NeA (aCB LenA (aCons (aVar 13) aNil)) (aVar 14))) (aB (aBin NePA (aVar 13) (aCB SortPA (aCons (aVar 13) aNil))))))
  (aRet (aC (.bl false)))
  aNext)
  (aSeq (aAsg (aMeth a.Talk "wider" (sp_Talk_wider a) (fun ds _ => ds) 2 0 (aVar 5) (aCons (aVar 8) aNil) aNil) (gNameA 16))
  (aSeq (aIfS (aB (aBin InA (aC (.bl false)) (aLcC [18] (iMemA (aVar 13)) (gNameA 18) aYes (aCall (sp_is_world a) (fun ds _ => ds) 2 (aCons (aVar 16) (aCons (aVar 18) aNil))) rFro)))
  (aRet (aC (.bl false)))
  aNext)
  (aSeq (aDrop (aBM "list" PopA (aVar 13) aNil))
  (aIfS (aB (aBin NeA (aCB ReprA (aCons (aCall (sp_shares a) (fun ds _ => ds) 3 (aCons (aVar 5) (aCons (aVar 6) (aCons (aVar 8) aNil)))) aNil)) (aCB ReprA (aCons (aVar 12) aNil))))
  (aRet (aC (.bl false)))
  aNext)))))))))
  aNext)
  (aIfS (aB (aBin NeA (aCB ReprA (aCons (aVar 6) aNil)) (aVar 7)))
  (aRet (aC (.bl false)))
  aNext))))))))))))
  (aRet (aC (.bl true))))
theorem den_law (F : Fx P w K mg a)
    (h_l_pool : Fn1 P w K mg base "_law_pool" 1 [] 2 0 (fun ds _ => ds) (sp_l_pool a))
    (h_l_tongue : Fn1 P w K mg base "_law_tongue" 3 [] 3 0 (fun ds _ => ds) (sp_l_tongue a))
    (h_l_take : Fn1 P w K mg base "_law_take" 1 [] 2 0 (fun ds _ => ds) (sp_l_take a))
    (h_Talk_m : Mk1 P w K mg base "Talk" a.Talk 3 ["most"] 2 1 (fun ds es => ds ++ es) (sp_Talk_init a))
    (h_l_few : Fn1 P w K mg base "_law_few" 2 [] 4 0 (fun ds _ => ds) (sp_l_few a))
    (h_l_fresh : Fn1 P w K mg base "_law_fresh" 3 [] 2 0 (fun ds _ => ds) (sp_l_fresh a))
    (h_l_bent : Fn1 P w K mg base "_law_bent" 3 [] 3 0 (fun ds _ => ds) (sp_l_bent a))
    (h_l_odd : Fn1 P w K mg base "_law_odd" 2 [] 1 0 (fun ds _ => ds) (sp_l_odd a))
    (h_l_is_name : Fn1 P w K mg base "_law_is_name" 1 [] 1 0 (fun ds _ => ds) (sp_l_is_name a))
    (h_l_refused : Fn1 P w K mg base "_law_refused" 8 [] 3 0 (fun ds _ => ds) (sp_l_refused a))
    (h_l_shares : Fn1 P w K mg base "_law_shares" 2 [] 3 0 (fun ds _ => ds) (sp_l_shares a))
    (h_shares : Fn1 P w K mg base "shares" 7 [] 3 0 (fun ds _ => ds) (sp_shares a))
    (h_Talk_wider : Mt1 P w K mg base a.Talk "wider" 5 [] 2 0 (fun ds _ => ds) (sp_Talk_wider a))
    (h_is_world : Fn1 P w K mg base "is_world" 2 [] 2 0 (fun ds _ => ds) (sp_is_world a))
    
    {f : Addr} {cdv : Value} {A : Around} {outer : List Env} {s : Shared} {H : Hp} {E : XK} (hr : Room 8 (A.deeper (envOfC "law" (defScope s_law) s.heap.objs.size f cdv))) (hgd : A.guards = some []) :
    DenB (cxOf (L2.CX P w) P w K mg base N_law "law" (defScope s_law) f cdv A outer s H E) (defBody s_law) (t_law a) :=
  (db_cons (ds_for (passes_of rfl) rfl (di_range1 F.b_range (da_cons (de_cb (okc_max rfl) F.b_max boot_max (da_cons de_int (da_cons (de_cb (okc_min rfl) F.b_min boot_min (da_cons de_int (da_cons (de_cb okc_len F.b_len boot_len (da_cons (de_var 0) da_nil)) da_nil))) da_nil))) da_nil)) (dg_name 1 sc_law.nd) (db_cons (ds_set 2 sc_law.nd (de_f h_l_pool (hr.mono (by decide)) (da_cons (de_var 0) (da_cons (de_var 1) da_nil))))
  (db_cons (ds_set 3 sc_law.nd (de_f h_l_tongue (hr.mono (by decide)) (da_cons (de_var 2) (da_cons de_int (da_cons de_int da_nil)))))
  (db_cons (ds_set 4 sc_law.nd (de_bin ok_add de_int (de_f h_l_take (hr.mono (by decide)) (da_cons (de_var 2) (da_cons de_int da_nil)))))
  (db_cons (ds_set 5 sc_law.nd (de_k false h_Talk_m (hr.mono (by decide)) (da_cons (de_wk (de_ix (de_var 3) de_int)) (da_cons (de_wk (de_ix (de_var 3) de_int)) da_nil)) (dk_cons (de_var 4) dk_nil)))
  (db_cons (ds_set 6 sc_law.nd (de_f h_l_few (hr.mono (by decide)) (da_cons (de_var 2) (da_cons (de_var 3) (da_cons de_int (da_cons (de_var 4) da_nil))))))
  (db_cons (ds_set 7 sc_law.nd (de_cb (okc_repr hgd hr.u200) F.b_repr boot_repr (da_cons (de_var 6) da_nil)))
  (db_cons (ds_set 8 sc_law.nd (de_f h_l_fresh (hr.mono (by decide)) (da_cons (de_var 2) (da_cons (de_var 3) da_nil))))
  (db_cons (ds_set 9 sc_law.nd (de_bin ok_add (de_bin ok_add (de_ct okc_list F.b_list boot_list (da_cons (de_wk (de_ix (de_var 3) de_int)) da_nil)) (de_ct okc_list F.b_list boot_list (da_cons (de_wk (de_ix (de_var 3) de_int)) da_nil))) (de_lst (da_cons (de_var 8) (da_cons (de_f h_l_bent (hr.mono (by decide)) (da_cons (de_var 2) (da_cons (de_var 8) (da_cons de_int da_nil)))) da_nil)))))
  (db_cons (ds_for (passes_of rfl) rfl (di_list (de_bin ok_add (de_var 9) (de_lst (da_cons (de_f h_l_odd (hr.mono (by decide)) (da_cons (de_var 2) da_nil)) (da_cons (de_f h_l_odd (hr.mono (by decide)) (da_cons (de_var 2) da_nil)) da_nil))))) (dg_name 10 sc_law.nd) (db_cons (ds_set 11 sc_law.nd (de_and (de_f h_l_is_name (hr.mono (by decide)) (da_cons (de_var 10) da_nil)) (de_and (de_cmp ok_notin (de_var 10) (de_bin ok_add (de_wk (de_ix (de_var 3) de_int)) (de_wk (de_ix (de_var 3) de_int)))) (de_one (de_cmp ok_lt (de_cb okc_len F.b_len boot_len (da_cons (de_wk (de_ix (de_var 3) de_int)) da_nil)) de_int)))))
  (db_one (ds_if (dt_cmp (ok_ne hr.units) (de_f h_l_refused (hr.mono (by decide)) (da_cons (de_var 5) (da_cons (de_var 6) (da_cons (de_var 10) da_nil)))) (de_not (de_var 11))) (db_one (ds_ret de_bl)) db_nil))))
  (db_cons (ds_if (dt_cmp ok_lt (de_cb okc_len F.b_len boot_len (da_cons (de_wk (de_ix (de_var 3) de_int)) da_nil)) de_int) (db_cons (ds_setLc (own := [("_law_counts", 17)]) false 12 rfl rfl sc_law.nd (blkOk_by (own := [("_law_counts", 17)]) (N := N_law) (sc := defScope s_law) (by decide +kernel)) (di_list (de_f h_l_shares (hr.mono (by decide)) (da_cons (de_wk (de_ix (de_var 3) de_int)) (da_cons (de_ix (de_var 6) de_int) (da_cons (de_var 8) da_nil))))) (fun _ _ _ _ _ => (dg_name 17 sc_law.nd)) (fun _ _ _ _ _ => dts_nil) (fun _ _ _ _ _ => (de_tup (da_cons (de_var 17) (da_cons (de_ix (de_var 6) de_int) da_nil)))) (sw_true rfl rfl rfl (by decide +kernel)))
  (db_cons (ds_set 13 sc_law.nd (de_f h_shares (hr.mono (by decide)) (da_cons (de_var 5) (da_cons (de_var 6) (da_cons (de_var 8) da_nil)))))
  (db_cons (ds_set 14 sc_law.nd de_int)
  (db_cons (ds_for (passes_of rfl) rfl (di_tup (de_ix (de_var 6) de_int)) (dg_name 15 sc_law.nd) (db_one (ds_set 14 sc_law.nd (de_bin ok_mul (de_var 14) (de_bin ok_add (de_var 15) de_int)))))
  (db_cons (ds_if (DenW.t (dw_or (dt_cmp (ok_ne hr.units) (de_cb (okc_repr hgd hr.u200) F.b_repr boot_repr (da_cons (de_var 13) da_nil)) (de_cb (okc_repr hgd hr.u200) F.b_repr boot_repr (da_cons (de_var 12) da_nil))) (dw_or (dt_cmp (ok_ne hr.units) (de_cb okc_len F.b_len boot_len (da_cons (de_var 13) da_nil)) (de_var 14)) (dw_or1 (dt_cmp (ok_neP hr.units) (de_var 13) (de_cb (okc_sortP hr.u200) F.b_sorted boot_sorted (da_cons (de_var 13) da_nil))))))) (db_one (ds_ret de_bl)) db_nil)
  (db_cons (ds_set 16 sc_law.nd (de_m h_Talk_wider (hr.mono (by decide)) (de_var 5) (da_cons (de_var 8) da_nil)))
  (db_cons (ds_if (dt_cmp ok_in de_bl (de_lcC (own := [("_law_share", 18)]) false rfl rfl sc_law.nd (blkOk_by (own := [("_law_share", 18)]) (N := N_law) (sc := defScope s_law) (by decide +kernel)) (di_mem (de_var 13)) (fun _ _ _ _ _ => (dg_name 18 sc_law.nd)) (fun _ _ _ _ _ => dts_nil) (fun _ _ _ _ _ => (de_f h_is_world (hr.mono (by decide)) (da_cons (de_var 16) (da_cons (de_var 18) da_nil)))))) (db_one (ds_ret de_bl)) db_nil)
  (db_cons (ds_expr (de_bm0 PySem.F.plainAttrs_list PySem.F.slot_list_pop PySem.F.type_list_pop okm_pop (de_var 13)))
  (db_one (ds_if (dt_cmp (ok_ne hr.units) (de_cb (okc_repr hgd hr.u200) F.b_repr boot_repr (da_cons (de_f h_shares (hr.mono (by decide)) (da_cons (de_var 5) (da_cons (de_var 6) (da_cons (de_var 8) da_nil)))) da_nil)) (de_cb (okc_repr hgd hr.u200) F.b_repr boot_repr (da_cons (de_var 12) da_nil))) (db_one (ds_ret de_bl)) db_nil)))))))))) db_nil)
  (db_one (ds_if (dt_cmp (ok_ne hr.units) (de_cb (okc_repr hgd hr.u200) F.b_repr boot_repr (da_cons (de_var 6) da_nil)) (de_var 7)) (db_one (ds_ret de_bl)) db_nil)))))))))))))
  (db_one (ds_ret de_bl)))

end
end K78a
set_option maxRecDepth 100000
set_option maxHeartbeats 4000000
namespace K78a
open PySem L2 PyProof.Rows Ab
local macro_rules | `(tactic| walk_at "go1") => `(tactic| first
  | with_reducible refine aSeq_r ?_
  | with_reducible refine aNext_r ?_
  | with_reducible refine aRet_r ?_
  | with_reducible refine aRetN_r ?_
  | with_reducible refine aDrop_r ?_
  | with_reducible refine aIfS_r ?_
  | with_reducible refine aAsg_r ?_
  | with_reducible refine aBin_r ?_
  | with_reducible refine aChain_r ?_
  | with_reducible refine aUn_r ?_
  | with_reducible refine aB_r' ?_
  | with_reducible refine aTru_r ?_
  | with_reducible refine aAnd_r ?_
  | with_reducible refine aOr_r ?_
  | with_reducible refine aNot_r ?_
  | with_reducible refine aAndV_r ?_
  | with_reducible refine aOrV_r ?_
  | with_reducible refine aNotV_r ?_
  | with_reducible refine aIf_r ?_
  | with_reducible refine aTup_r ?_
  | with_reducible refine aLst_r ?_
  | with_reducible refine aLstM_r ?_
  | with_reducible refine aNil_r ?_
  | with_reducible refine aCons_r ?_
  | with_reducible refine aCall_r ?_
  | with_reducible refine aCallK_r ?_
  | with_reducible refine aMeth_r ?_
  | with_reducible refine aMk_r ?_
  | with_reducible refine aFld_r ?_
  | with_reducible refine aSetF_r ?_
  | with_reducible refine aRaise_r ?_
  | with_reducible refine aCB_r ?_
  | with_reducible refine aBM_r ?_
  | with_reducible refine aSl_r ?_
  | with_reducible refine aNoPart_r ?_
  | with_reducible refine aPart_r ?_
  | with_reducible refine aFor_r ?_
  | with_reducible refine iLstA_r ?_
  | with_reducible refine iTupA_r ?_
  | with_reducible refine iRngA1_r ?_
  | with_reducible refine iRngA2_r ?_
  | with_reducible refine iStrA_r ?_
  | with_reducible refine iEnumA_r ?_
  | with_reducible refine iZipD_r ?_
  | with_reducible refine aLcL_r ?_
  | with_reducible refine aC_r ?_
  | with_reducible refine gSetL_r ?_
  | with_reducible refine gConsA_r ?_
  | with_reducible refine gNilA_r ?_
  | with_reducible refine aYes_r ?_
  | with_reducible refine rFro_r ?_
  | with_reducible refine aBreak_r ?_
  | with_reducible refine aCont_r ?_
  | with_reducible refine NeA_r ?_
  | with_reducible refine NotInA_r ?_
  | with_reducible refine AddA.int ?_
  | with_reducible refine SubA.int ?_
  | with_reducible refine LtA.int ?_
  | with_reducible refine GtA.int ?_
  | with_reducible refine LeA.int ?_
  | with_reducible refine GeA.int ?_
  | with_reducible refine LtA.str ?_
  | with_reducible refine LeA.str ?_
  | with_reducible refine EqA.int ?_
  | with_reducible refine EqA.str ?_
  | with_reducible refine EqA.bl ?_
  | with_reducible refine isn_non ?_
  | with_reducible refine isnt_non ?_
  | with_reducible refine isn_bl ?_
  | with_reducible refine isnt_bl ?_
  | with_reducible refine isn_int ?_
  | with_reducible refine isnt_int ?_
  | with_reducible refine isn_str ?_
  | with_reducible refine isnt_str ?_
  | with_reducible refine isn_tup ?_
  | with_reducible refine isnt_tup ?_
  | with_reducible refine isn_lst ?_
  | with_reducible refine isnt_lst ?_
  | with_reducible refine isn_ref ?_
  | with_reducible refine isnt_ref ?_
  | with_reducible refine isn_exc ?_
  | with_reducible refine isnt_exc ?_
  | with_reducible refine isn_obj ?_
  | with_reducible refine isnt_obj ?_
  | with_reducible refine aFrz_r ?_
  | with_reducible refine frz_1 ?_
  | with_reducible refine frz_2 ?_
  | with_reducible refine frz_3 ?_
  | with_reducible refine frz_4 ?_
  | with_reducible refine frz_int ?_
  | with_reducible refine frz_str ?_
  | with_reducible refine frz_bl ?_
  | with_reducible refine frz_tup ?_
  | with_reducible refine frz_lst ?_
  | with_reducible refine frz_non ?_
  | with_reducible refine NegA.int ?_
  | with_reducible refine aAugS_r ?_
  | with_reducible refine rMut_r ?_
  | with_reducible refine IsA.non ?_
  | with_reducible refine IsNotA.non ?_
  | with_reducible refine bl_r ?_
  | with_reducible refine il_fr ?_
  | with_reducible refine il_sk ?_
  | with_reducible refine it_r ?_
  | with_reducible refine pt_r ?_
  | with_reducible refine st_r ?_
  | with_reducible refine en_fr ?_
  | with_reducible refine zi_tup ?_
  | with_reducible refine zi_lst ?_
  | with_reducible refine ite_t ?_
  | with_reducible refine ite_f ?_
  | with_reducible refine vN0 ?_
  | with_reducible refine vN1 ?_
  | with_reducible refine vN2 ?_
  | with_reducible refine vN3 ?_
  | with_reducible refine vN4 ?_
  | with_reducible refine vN5 ?_
  | with_reducible refine vN6 ?_
  | with_reducible refine vN7 ?_
  | with_reducible refine vN8 ?_
  | with_reducible refine vN9 ?_
  | with_reducible refine vN10 ?_
  | with_reducible refine vN11 ?_
  | with_reducible refine vN12 ?_
  | with_reducible refine vN13 ?_
  | with_reducible refine vN14 ?_
  | with_reducible refine vN15 ?_
  | with_reducible refine vN16 ?_
  | with_reducible refine vN17 ?_
  | with_reducible refine vN18 ?_
  | with_reducible refine vN19 ?_
  | with_reducible refine vN20 ?_
  | with_reducible refine vN21 ?_
  | with_reducible refine vN22 ?_
  | with_reducible refine vN23 ?_
  | with_reducible refine gN0 ?_
  | with_reducible refine gN1 ?_
  | with_reducible refine gN2 ?_
  | with_reducible refine gN3 ?_
  | with_reducible refine gN4 ?_
  | with_reducible refine gN5 ?_
  | with_reducible refine gN6 ?_
  | with_reducible refine gN7 ?_
  | with_reducible refine gN8 ?_
  | with_reducible refine gN9 ?_
  | with_reducible refine gN10 ?_
  | with_reducible refine gN11 ?_
  | with_reducible refine gN12 ?_
  | with_reducible refine gN13 ?_
  | with_reducible refine gN14 ?_
  | with_reducible refine gN15 ?_
  | with_reducible refine gN16 ?_
  | with_reducible refine gN17 ?_
  | with_reducible refine gN18 ?_
  | with_reducible refine gN19 ?_
  | with_reducible refine gN20 ?_
  | with_reducible refine gN21 ?_
  | with_reducible refine gN22 ?_
  | with_reducible refine gN23 ?_
  | with_reducible refine rk_0 ?_
  | with_reducible refine rk_1 ?_
  | with_reducible refine rk_n0 ?_
  | with_reducible refine rk_n1 ?_
  | with_reducible refine rk_x0 ?_
  | with_reducible refine rk_x1 ?_
  | with_reducible refine rk_r ?_
  | with_reducible refine rk_n ?_
  | with_reducible refine rk_x ?_
  | with_reducible refine nx_mk ?_
  | with_reducible refine rt_mk ?_
  | with_reducible refine bk_mk ?_
  | with_reducible refine ct_mk ?_
  | with_reducible refine ex_mk ?_
  | with_reducible refine len_r rfl ?_
  | with_reducible refine NeA_r ?_
  | with_reducible refine MaxA.two ?_
  | with_reducible refine MinA.two ?_
  | with_reducible refine aWk_r ?_
  | with_reducible refine wk_t ?_
  | with_reducible refine wk_k ?_
  | with_reducible refine aTIx_r ?_
  | with_reducible refine tpn_r ?_
  | with_reducible refine aStep_r ?_
  | with_reducible refine tru_b ?_
  | with_reducible refine ite_nt ?_
  | with_reducible refine ite_nf ?_
  | with_reducible refine aTryK_r ?_
  | with_reducible refine iEnumTA_r ?_
  | with_reducible refine en_t ?_
  | with_reducible refine aLc2L_r ?_
  | with_reducible refine aLcC_r ?_
  | with_reducible refine iMemA_r ?_
  | with_reducible refine isi_non_int ?_
  | with_reducible refine isi_non_bool ?_
  | with_reducible refine isi_non_str ?_
  | with_reducible refine isi_non_tuple ?_
  | with_reducible refine isi_non_list ?_
  | with_reducible refine isi_non_dict ?_
  | with_reducible refine isi_bl_int ?_
  | with_reducible refine isi_bl_bool ?_
  | with_reducible refine isi_bl_str ?_
  | with_reducible refine isi_bl_tuple ?_
  | with_reducible refine isi_bl_list ?_
  | with_reducible refine isi_bl_dict ?_
  | with_reducible refine isi_int_int ?_
  | with_reducible refine isi_int_bool ?_
  | with_reducible refine isi_int_str ?_
  | with_reducible refine isi_int_tuple ?_
  | with_reducible refine isi_int_list ?_
  | with_reducible refine isi_int_dict ?_
  | with_reducible refine isi_str_int ?_
  | with_reducible refine isi_str_bool ?_
  | with_reducible refine isi_str_str ?_
  | with_reducible refine isi_str_tuple ?_
  | with_reducible refine isi_str_list ?_
  | with_reducible refine isi_str_dict ?_
  | with_reducible refine isi_tup_int ?_
  | with_reducible refine isi_tup_bool ?_
  | with_reducible refine isi_tup_str ?_
  | with_reducible refine isi_tup_tuple ?_
  | with_reducible refine isi_tup_list ?_
  | with_reducible refine isi_tup_dict ?_
  | with_reducible refine isi_tpn_int ?_
  | with_reducible refine isi_tpn_bool ?_
  | with_reducible refine isi_tpn_str ?_
  | with_reducible refine isi_tpn_tuple ?_
  | with_reducible refine isi_tpn_list ?_
  | with_reducible refine isi_tpn_dict ?_
  | with_reducible refine isi_lst_int ?_
  | with_reducible refine isi_lst_bool ?_
  | with_reducible refine isi_lst_str ?_
  | with_reducible refine isi_lst_tuple ?_
  | with_reducible refine isi_lst_list ?_
  | with_reducible refine isi_lst_dict ?_
  | with_reducible refine isi_dic_int ?_
  | with_reducible refine isi_dic_bool ?_
  | with_reducible refine isi_dic_str ?_
  | with_reducible refine isi_dic_tuple ?_
  | with_reducible refine isi_dic_list ?_
  | with_reducible refine isi_dic_dict ?_
  | ((with_reducible refine MulA.intL ?_ ?_); (· ((constructor <;> first | decide | omega))))
  | ((with_reducible refine MulA.intR ?_ ?_); (· ((constructor <;> first | decide | omega))))
  | ((with_reducible refine ModA.int ?_ ?_); (· (first | decide | assumption | omega)))
  | ((with_reducible refine DivA.int ?_ ?_); (· ((constructor <;> first | decide | assumption | omega))))
  | ((with_reducible refine PowA.int ?_ ?_); (· ((refine ⟨?_, ?_, ?_⟩ <;> first | decide | omega))))
  | ((with_reducible apply IxA.seq); (· (first | exact .tup | exact .fr | exact .tpn | exact .sk | exact .mu (.head _) | exact .mu (.tail _ (.head _)) | exact .mu (.tail _ (.tail _ (.head _))))); (· (rfl)))
  | ((with_reducible apply LenA.seq); (· (first | exact .tup | exact .fr | exact .tpn | exact .sk | exact .mu (.head _) | exact .mu (.tail _ (.head _)) | exact .mu (.tail _ (.tail _ (.head _))))))
  | ((with_reducible apply TupleA.seq); (· (first | exact .tup | exact .fr | exact .tpn | exact .sk | exact .mu (.head _) | exact .mu (.tail _ (.head _)) | exact .mu (.tail _ (.tail _ (.head _))))))
  | ((with_reducible apply ListA.seq); (· (first | exact .tup | exact .fr | exact .tpn | exact .sk | exact .mu (.head _) | exact .mu (.tail _ (.head _)) | exact .mu (.tail _ (.tail _ (.head _))))))
  | ((with_reducible refine rg_r ?_ ?_ ?_); (· (first | decide | omega)); (· (first | decide | omega)))
  | ((with_reducible apply setL_r); (· (first | exact .here | exact .there .here | exact .there (.there .here))); (· (rfl)); (· (rfl)))
  | ((with_reducible refine obj_r ?_ ?_); (· (first | rfl | decide +kernel)))
  | ((with_reducible apply fld_r); (· (rfl)))
  | ((with_reducible refine len_le ?_ ?_); (· (simp; done)))
  | ((with_reducible refine gTupA_r ?_ ?_); (· (rfl)))
  | dsimp only [List.nil_append, List.cons_append]
  | dsimp only [wipeA, unS]
  | ((with_reducible refine len_r ?_ ?_); (· (rfl))))
local macro_rules | `(tactic| walk_at "go") => `(tactic| repeat walk_at "go1")
theorem lkS {sx : D} {N : List Str} {t : Int} : (talkF sx N t).lookup ("set_names" : Str) = some sx := by
  unfold talkF; rw [List.lookup_cons_self]
theorem lkN {sx : D} {N : List Str} {t : Int} : (talkF sx N t).lookup ("number_names" : Str) = some (D.tup (N.map D.str)) := by
  unfold talkF
  rw [List.lookup_cons, show (("number_names" : Str) == "set_names") = false by decide +kernel, List.lookup_cons_self]
theorem lkT {sx : D} {N : List Str} {t : Int} : (talkF sx N t).lookup ("top" : Str) = some (D.int t) := by
  unfold talkF
  rw [List.lookup_cons, show (("top" : Str) == "set_names") = false by decide +kernel, List.lookup_cons, show (("top" : Str) == "number_names") = false by decide +kernel, List.lookup_cons_self]
theorem lkM {sx : D} {N : List Str} {t : Int} {m : Str} (h : (("set_names" : Str) == m || ("number_names" : Str) == m || ("top" : Str) == m) = false) : (talkF sx N t).lookup m = none := by
  have hc : ∀ x : Str, (x == m) = false → (m == x) = false := fun x h => beq_eq_false_iff_ne.mpr fun e => (beq_eq_false_iff_ne.mp h) e.symm
  simp only [Bool.or_eq_false_iff] at h
  unfold talkF
  rw [List.lookup_cons, hc _ h.1.1, List.lookup_cons, hc _ h.1.2, List.lookup_cons, hc _ h.2]
  rfl
local macro_rules | `(tactic| walk_at "go1") => `(tactic| first
  | with_reducible refine fld_r lkS ?_
  | with_reducible refine fld_r lkN ?_
  | with_reducible refine fld_r lkT ?_
  | with_reducible refine obj_r (lkM (by decide +kernel)) ?_)
theorem nlt_trans {a b c : List Nat} (h1 : ¬ b < a) (h2 : ¬ c < b) : ¬ c < a := by
  have h1' : a ≤ b := List.not_lt.mp h1
  have h2' : b ≤ c := List.not_lt.mp h2
  exact List.not_lt.mpr (List.le_trans h1' h2')
theorem leS_trans (a b c : Str) (h1 : leS a b = true) (h2 : leS b c = true) : leS a c = true := by
  simp only [leS, ltS, Bool.not_eq_true', decide_eq_false_iff_not] at *
  exact nlt_trans h1 h2
theorem leS_total (a b : Str) : (leS a b || leS b a) = true := by
  simp only [leS, ltS, Bool.or_eq_true, Bool.not_eq_true', decide_eq_false_iff_not]
  rcases List.le_total a.cps.toList b.cps.toList with h | h
  · exact Or.inl (List.not_lt.mpr h)
  · exact Or.inr (List.not_lt.mpr h)
theorem str_ext {a b : Str} (h : a.cps.toList = b.cps.toList) : a = b := by
  obtain ⟨x⟩ := a
  obtain ⟨y⟩ := b
  have : x = y := Array.toList_inj.mp h
  rw [this]
theorem leS_antisymm (a b : Str) (h1 : leS a b = true) (h2 : leS b a = true) : a = b := by
  simp only [leS, ltS, Bool.not_eq_true', decide_eq_false_iff_not] at *
  exact str_ext (List.le_antisymm (List.not_lt.mp h1) (List.not_lt.mp h2))
theorem rising_pw : ∀ (p : Str) (l : List Str), PyProof.Rows.risingS p l = true → (p :: l).Pairwise (fun a b => leS a b = true)
  | p, [], _ => List.pairwise_singleton _ _
  | p, x :: r, h => by
    have h' : (!PySem.Spec.ltCps x.cps.toList p.cps.toList && PyProof.Rows.risingS x r) = true := h
    rw [Bool.and_eq_true] at h'
    have ih := rising_pw x r h'.2
    have hx : leS p x = true := by
      have := h'.1
      rw [PyProof.Rows.ltCps_eq] at this
      exact this
    refine List.pairwise_cons.mpr ⟨fun y hy => ?_, ih⟩
    rcases List.mem_cons.mp hy with rfl | hy
    · exact hx
    · exact leS_trans _ _ _ hx ((List.pairwise_cons.mp ih).1 y hy)
theorem sorted_pw : ∀ (l : List Str), PyProof.Rows.sortedS l = true → l.Pairwise (fun a b => leS a b = true)
  | [], _ => List.Pairwise.nil
  | x :: r, h => rising_pw x r h
theorem srt_pw (l : List Str) : (srtS l).Pairwise (fun a b => leS a b = true) := List.pairwise_mergeSort leS_trans leS_total l
theorem srt_perm (l : List Str) : (srtS l).Perm l := List.mergeSort_perm _ _
theorem srt_unique {ys l : List Str} (h : ys.Perm l) (hs : PyProof.Rows.sortedS ys = true) : ys = srtS l :=
  List.Perm.eq_of_pairwise (fun a b _ _ h1 h2 => leS_antisymm a b h1 h2) (sorted_pw ys hs) (srt_pw l) (h.trans (srt_perm l).symm)
theorem vc_l_lies (a : Ad) : ∀ ds M P EX, sp_l_lies a ds M P EX → t_l_lies a (startA N_l_lies ds) M (retK P EX) := by
  intro ds M P EX ⟨G, r, s, hd, hM, hp⟩
  subst hd hM
  unfold t_l_lies
  show (aSeq _ _) [some (.tup (G.map D.str)), some (.int r), some (.str s), none, none] _ _
  walk_at "go"
  refine ⟨fun i ρ' M' => M' = [] ∧ ∃ (b : Int) (x : Option D), ρ' = [some (.tup (G.map D.str)), some (.int r), some (.str s), some (.int b), x] ∧ lieB G r s = lieB (G.drop i) b s, ⟨rfl, r, none, rfl, rfl⟩, fun i d ρ' M' hx hj => ?_, fun ρ' M' hj => ?_⟩
  · obtain ⟨rfl, b, x, rfl, he⟩ := hj
    rw [List.getElem?_map] at hx
    cases hq : G[i]? with
    | none => rw [hq] at hx; cases hx
    | some o =>
      rw [hq] at hx; cases hx
      obtain ⟨hl, e3⟩ := List.getElem?_eq_some_iff.mp hq
      have e2 : G.drop i = o :: G.drop (i + 1) := by rw [List.drop_eq_getElem_cons hl, e3]
      rw [e2] at he
      walk_at "go"
      refine ite_r (fun h => ?_) (fun h => ?_)
      · walk_at "go"
        have h' : o = s := of_decide_eq_true h
        rw [he] at hp
        simp only [lieB, if_pos h'] at hp
        exact hp
      · walk_at "go"
        have h' : ¬ o = s := of_decide_eq_false h
        simp only [lieB, if_neg h'] at he
        exact ⟨rfl, _, _, rfl, he⟩
  · obtain ⟨rfl, b, x, rfl, he⟩ := hj
    rw [List.length_map, List.drop_length] at he
    walk_at "go"
    rw [he] at hp
    exact hp
theorem vc_is_whole (a : Ad) : ∀ ds M P EX, sp_is_whole a ds M P EX → t_is_whole a (startA N_is_whole ds) M (retK P EX) := by
  intro ds M P EX ⟨i, lo, hi, hd, hM, hp⟩
  subst hd hM
  unfold t_is_whole
  cases lo with
  | none =>
    cases hi with
    | none =>
      show (aSeq _ _) [some (.int i), some .non, some .non] _ _
      walk_at "go"
      exact hp
    | some h =>
      show (aSeq _ _) [some (.int i), some .non, some (.int h)] _ _
      walk_at "go"
      simpa using hp
  | some l =>
    cases hi with
    | none =>
      show (aSeq _ _) [some (.int i), some (.int l), some .non] _ _
      walk_at "go"
      refine ite_r (fun h => ?_) (fun h => ?_)
      · walk_at "go"
        have : decide (l ≤ i) = false := by simp at h; simp; omega
        simpa [this] using hp
      · walk_at "go"
        have : decide (l ≤ i) = true := by simp at h; simp; omega
        simpa [this] using hp
    | some h' =>
      show (aSeq _ _) [some (.int i), some (.int l), some (.int h')] _ _
      walk_at "go"
      refine ite_r (fun h => ?_) (fun h => ?_)
      · walk_at "go"
        have : decide (l ≤ i) = false := by simp at h; simp; omega
        simpa [this] using hp
      · walk_at "go"
        have : decide (l ≤ i) = true := by simp at h; simp; omega
        simpa [this] using hp
/-- letters among the letters -/
theorem letters_mem (c : Nat) : decide (c ∈ (Str.ofString "abcdefghijklmnopqrstuvwxyz").cps.toList) = decide (97 ≤ c ∧ c ≤ 122) := by
  have e : (Str.ofString "abcdefghijklmnopqrstuvwxyz").cps.toList = (List.range 26).map (97 + ·) := by decide +kernel
  rw [e]
  refine decide_eq_decide.mpr ⟨fun h => ?_, fun h => ?_⟩
  · obtain ⟨k, hk, rfl⟩ := List.mem_map.mp h
    have := List.mem_range.mp hk
    omega
  · exact List.mem_map.mpr ⟨c - 97, List.mem_range.mpr (by omega), by omega⟩
theorem signs_get' {z : Str} {i : Nat} {d : D} (h : (Ab.signs z)[i]? = some d) : ∃ c, z.cps.toList[i]? = some c ∧ d = .str ⟨#[c]⟩ := by
  unfold Ab.signs at h
  rw [List.getElem?_map] at h
  cases q : z.cps.toList[i]? with
  | none => rw [q] at h; cases h
  | some c => rw [q] at h; cases h; exact ⟨c, rfl, rfl⟩
theorem vc_is_name (a : Ad) : ∀ ds M P EX, sp_is_name a ds M P EX → t_is_name a (startA N_is_name ds) M (retK P EX) := by
  intro ds M P EX ⟨d, hd, hM, ho, hp⟩
  subst hd hM
  unfold t_is_name
  show (aSeq _ _) [some d, none] _ _
  cases d with
  | str z =>
    have hz : z.length ≤ 100000 := ho.1
    walk_at "go"
    refine LenA.str hz ?_
    walk_at "go"
    refine ite_r (fun h1 => ?_) (fun h1 => ?_)
    · walk_at "go"
      refine ite_r (fun h2 => ?_) (fun h2 => ?_)
      · walk_at "go"
        have e : namD (.str z) = false := by
          have : decide (z.length ≤ 8) = false := by simp at h2; simp; omega
          simp [namD, namB, this]
        rw [e] at hp; exact hp
      · walk_at "go"
        have l8 : z.length ≤ 8 := by simp at h2; omega
        have l1 : 1 ≤ z.length := by simp at h1; omega
        refine LcA.pure ((z.cps.toList.map fun c => decide (97 ≤ c ∧ c ≤ 122)).map D.bl) (by simp [Ab.signs]) (fun i d hd => ?_) ?_
        · obtain ⟨c, hc, rfl⟩ := signs_get' hd
          walk_at "go"
          refine InA.sign ?_
          rw [letters_mem]
          refine lc_post (by have : z.cps.size = z.length := rfl; simp; omega) (by rw [List.getElem?_map, List.getElem?_map, hc]; rfl)
        · walk_at "go"
          refine AllA.lst .fr ?_
          walk_at "go"
          have e : namD (.str z) = (z.cps.toList.map fun c => decide (97 ≤ c ∧ c ≤ 122)).all _root_.id := by
            simp [namD, namB, l1, l8, List.all_map, Function.comp_def]
          rw [e] at hp; exact hp
    · walk_at "go"
      have e : namD (.str z) = false := by
        have : decide (1 ≤ z.length) = false := by simp at h1; simp; omega
        simp [namD, namB, this]
      rw [e] at hp; exact hp
  | non => walk_at "go"; exact hp
  | bl b => walk_at "go"; exact hp
  | int i => walk_at "go"; exact hp
  | tup l => walk_at "go"; exact hp
  | lst l => walk_at "go"; exact hp
  | dic l => walk_at "go"; exact hp
  | ty n => exact ho.elim
  | ref n => exact ho.elim
  | tpn n => exact ho.elim
  | lsk n => exact ho.elim
  | obj n l => exact ho.elim
  | exc n => exact ho.elim
theorem incB_zip : ∀ S : List Str, incB S = ((S.zip (S.drop 1)).map (fun p => ltS p.1 p.2)).all _root_.id
  | [] => rfl
  | [_] => rfl
  | a :: b :: r => by
    have ih := incB_zip (b :: r)
    simp only [incB, ih]
    rfl
theorem cut1 {l : List D} : cutL l (some 1) none = l.drop 1 := by
  unfold cutL
  have h1 : HT.sIx l.length 0 (some 1) = min 1 l.length := by
    unfold HT.sIx; simp
  have h2 : HT.sIx l.length l.length none = l.length := rfl
  rw [h1, h2]
  cases l with
  | nil => rfl
  | cons a r =>
    have : min 1 (a :: r).length = 1 := by simp
    rw [this, List.take_of_length_le (by simp)]
theorem vc_are_names (a : Ad) : ∀ ds M P EX, sp_are_names a ds M P EX → t_are_names a (startA N_are_names ds) M (retK P EX) := by
  intro ds M P EX ⟨x, S, many, hd, hx, hM, ⟨hs1, hs2⟩, hp⟩
  subst hd hM
  unfold t_are_names
  show (aSeq _ _) [some x, some (.int many), none, none, none] _ _
  rcases hx with rfl | rfl
  all_goals
    walk_at "go"
    refine ite_r (fun h1 => ?_) (fun h1 => ?_)
    · walk_at "go"
      have e : areB S many = false := by
        have : decide ((S.length : Int) ≤ many) = false := by simp at h1; simp; omega
        simp [areB, this]
      rw [e] at hp; exact hp
    · walk_at "go"
      have e1 : decide ((S.length : Int) ≤ many) = true := by simp at h1; simp; omega
      refine LcA.pure ((S.map namB).map D.bl) (by simp) (fun i d hd => ?_) ?_
      · rw [List.getElem?_map] at hd
        cases hq : S[i]? with
        | none => rw [hq] at hd; cases hd
        | some s =>
          rw [hq] at hd; cases hd
          walk_at "go"
          refine cm0 ⟨.str s, rfl, rfl, ?_, ?_⟩
          · have := hs2 s (List.mem_of_getElem? hq)
            exact ⟨by omega, this.2⟩
          · exact lc_post (by simp; omega) (by rw [List.getElem?_map, List.getElem?_map, hq]; rfl)
      · walk_at "go"
        refine AllA.lst .fr ?_
        walk_at "go"
        refine ite_r (fun h2 => ?_) (fun h2 => ?_)
        · walk_at "go"
          have e : areB S many = false := by
            have : S.all namB = false := by simpa [List.all_map, Function.comp_def] using h2
            simp [areB, this]
          rw [e] at hp; exact hp
        · walk_at "go"
          have e2 : S.all namB = true := by simpa [List.all_map, Function.comp_def] using h2
          refine SlA.tup ?_
          rw [cut1]
          walk_at "go"
          refine LcA.pure (((S.zip (S.drop 1)).map (fun p => ltS p.1 p.2)).map D.bl) (by simp [zipD]) (fun i d hd => ?_) ?_
          · obtain ⟨x1, x2, q1, q2, rfl⟩ := zipD_get hd
            rw [List.getElem?_map] at q1
            rw [← List.map_drop, List.getElem?_map] at q2
            cases r1 : S[i]? with
            | none => rw [r1] at q1; cases q1
            | some s1 =>
              cases r2 : (S.drop 1)[i]? with
              | none => rw [r2] at q2; cases q2
              | some s2 =>
                rw [r1] at q1; rw [r2] at q2
                cases q1; cases q2
                refine gTupA_r rfl ?_
                walk_at "go"
                refine lc_post (by simp; omega) ?_
                rw [List.getElem?_map, List.getElem?_map, show (S.zip (S.drop 1))[i]? = some (s1, s2) from List.getElem?_zip_eq_some.mpr ⟨r1, r2⟩]
                rfl
          · walk_at "go"
            refine AllA.lst .fr ?_
            walk_at "go"
            have e : areB S many = ((S.zip (S.drop 1)).map (fun p => ltS p.1 p.2)).all _root_.id := by
              rw [← incB_zip]
              simp [areB, e1, e2]
            rw [e] at hp; exact hp
theorem ixN_nat {k h : Nat} (hl : h < k) : ixN k (h : Int) = some h := by
  unfold ixN
  rw [if_pos (by omega)]
  simp [hl]
theorem vc_shared_out (a : Ad) : ∀ ds M P EX, sp_shared_out a ds M P EX → t_shared_out a (startA N_shared_out ds) M (retK P EX) := by
  intro ds M P EX ⟨row, h0, h1, c, n, hd, hM, l0, l1, hp⟩
  subst hd hM
  unfold t_shared_out
  show (aSeq _ _) [some (.lst (row.map D.int)), some (.tup [.int h0, .int h1]), some (.int c), some (.int n), none] _ _
  walk_at "go"
  refine ListMA.seq .fr fun q hq => ?_
  walk_at "go"
  have l0' : h0 < (row.map D.int).length := by simpa using l0
  refine setL_r .here (ixN_nat l0') rfl ?_
  walk_at "go"
  have l1' : h1 < ((row.map D.int).set h0 (D.int (c - n))).length := by simpa using l1
  refine setL_r .here (ixN_nat l1') rfl ?_
  walk_at "go"
  rw [← List.map_set, ← List.map_set]
  exact hp
theorem vc_Talk_sets (a : Ad) : ∀ ds M P EX, sp_Talk_sets a ds M P EX → t_Talk_sets a (startA N_Talk_sets ds) M (retK P EX) := by
  intro ds M P EX ⟨sx, N, t, hd, hM, hp⟩
  subst hd hM
  unfold t_Talk_sets
  show (aRet _) [some (.obj a.Talk (talkF sx N t))] _ _
  walk_at "go"
  exact hp
theorem vc_Talk_numbers (a : Ad) : ∀ ds M P EX, sp_Talk_numbers a ds M P EX → t_Talk_numbers a (startA N_Talk_numbers ds) M (retK P EX) := by
  intro ds M P EX ⟨sx, N, t, hd, hM, hp⟩
  subst hd hM
  unfold t_Talk_numbers
  show (aRet _) [some (.obj a.Talk (talkF sx N t))] _ _
  walk_at "go"
  exact hp
theorem vc_Talk_most (a : Ad) : ∀ ds M P EX, sp_Talk_most a ds M P EX → t_Talk_most a (startA N_Talk_most ds) M (retK P EX) := by
  intro ds M P EX ⟨sx, N, t, hd, hM, hp⟩
  subst hd hM
  unfold t_Talk_most
  show (aRet _) [some (.obj a.Talk (talkF sx N t))] _ _
  walk_at "go"
  exact hp
theorem vc_Talk_regions (a : Ad) : ∀ ds M P EX, sp_Talk_regions a ds M P EX → t_Talk_regions a (startA N_Talk_regions ds) M (retK P EX) := by
  intro ds M P EX ⟨sx, S, N, t, hd, hx, hl, hM, hp⟩
  subst hd hM
  unfold t_Talk_regions
  show (aRet _) [some (.obj a.Talk (talkF sx N t))] _ _
  rcases hx with rfl | rfl
  all_goals
    walk_at "go"
    refine ShlA.int ⟨by omega, by simp; omega, by decide⟩ ?_
    walk_at "go"
    simpa using hp
theorem vc_Talk_need_region (a : Ad) : ∀ ds M P EX, sp_Talk_need_region a ds M P EX → t_Talk_need_region a (startA N_Talk_need_region ds) M (retK P EX) := by
  intro ds M P EX ⟨sx, S, N, t, r, hd, hx, hl, hM, h0, h1, hp⟩
  subst hd hM
  unfold t_Talk_need_region
  show (aIfS _ _ _) [some (.obj a.Talk (talkF sx N t)), some (.int r)] _ _
  walk_at "go"
  refine cm0 ⟨sx, S, N, t, rfl, hx, hl, rfl, ?_⟩
  walk_at "go"
  refine cm0 ⟨r, some 0, some (2 ^ S.length - 1), rfl, rfl, ?_⟩
  have e : ((some (0 : Int)).all (fun l => decide (l ≤ r)) && (some ((2 : Int) ^ S.length - 1)).all (fun h => decide (r ≤ h))) = true := by
    simp; omega
  rw [e]
  walk_at "go"
  exact ⟨_, Less.refl, hp⟩
theorem inS {M : Mem} {sx : D} {S : List Str} {n : Str} {P : AK} (hx : Tp sx S) (q : P (.bl (decide (n ∈ S))) M) : InA (.str n) sx M P := by
  have hs : SeqR M sx (S.map D.str) := by rcases hx with rfl | rfl <;> constructor
  refine InA.seq (vs := S.map V.str) (vx := .str n) hs rfl ?_ rfl ?_
  · clear hs hx q
    induction S with
    | nil => exact .nil
    | cons a r ih => exact .cons ⟨rfl, rfl⟩ ih
  · have e : inV (.str n) (S.map V.str) = decide (n ∈ S) := by
      clear hs hx q
      induction S with
      | nil => rfl
      | cons a r ih =>
        simp only [inV, List.map_cons, List.any_cons] at ih ⊢
        rw [ih]
        by_cases h : n = a
        · subst h; simp [eqV]
        · have h' : ¬ a = n := fun z => h z.symm
          simp [eqV, h, h']
    rw [e]; exact q
theorem vc_Talk_init (a : Ad) : ∀ ds M P EX, sp_Talk_init a ds M P EX → t_Talk_init a (startA N_Talk_init ds) M (retK P EX) := by
  intro ds M P EX ⟨x, sx, S, N, t, hd, hx, hM, hS, hN, hp, he⟩
  subst hd hM
  unfold t_Talk_init
  show (aSeq _ _) [some (.ref x), some sx, some (.tup (N.map D.str)), some (.int t), none] _ _
  walk_at "go"
  refine cm0 ⟨sx, S, 3, rfl, hx, rfl, hS, ?_⟩
  walk_at "go"
  refine ite_r (fun h1 => ?_) (fun h1 => ?_)
  · walk_at "go"
    refine he ?_
    have : areB S 3 = false := by simpa using h1
    simp [talkOk, this]
  have h1 : areB S 3 = true := by simpa using h1
  walk_at "go"
  refine cm0 ⟨_, N, 2, rfl, Or.inl rfl, rfl, hN, ?_⟩
  walk_at "go"
  refine ite_r (fun h2 => ?_) (fun h2 => ?_)
  · walk_at "go"
    refine he ?_
    have : areB N 2 = false := by simpa using h2
    simp [talkOk, this]
  have h2 : areB N 2 = true := by simpa using h2
  walk_at "go"
  refine LcA.pure ((N.map fun n => decide (n ∈ S)).map D.bl) (by simp) (fun i d hd => ?_) ?_
  · rw [List.getElem?_map] at hd
    cases hq : N[i]? with
    | none => rw [hq] at hd; cases hd
    | some s =>
      rw [hq] at hd; cases hd
      walk_at "go"
      refine inS hx ?_
      refine lc_post (by have := hN.1; simp; omega) (by rw [List.getElem?_map, List.getElem?_map, hq]; rfl)
  walk_at "go"
  refine AnyA.lst .fr ?_
  have e : (N.map fun n => decide (n ∈ S)).any _root_.id = N.any fun n => decide (n ∈ S) := by simp [List.any_map, Function.comp_def]
  rw [e]
  walk_at "go"
  refine ite_r (fun h3 => ?_) (fun h3 => ?_)
  · walk_at "go"
    refine he ?_
    unfold talkOk
    rw [h3]; simp
  walk_at "go"
  refine cm0 ⟨t, some 1, none, rfl, rfl, ?_⟩
  have e4 : ((some (1 : Int)).all (fun l => decide (l ≤ t)) && (none : Option Int).all (fun h => decide (t ≤ h))) = decide (1 ≤ t) := by simp
  rw [e4]
  walk_at "go"
  refine ite_r (fun h4 => ?_) (fun h4 => ?_)
  · walk_at "go"
    refine he ?_
    have : decide (1 ≤ t) = false := by simpa using h4
    unfold talkOk
    rw [this]; simp
  have h4 : decide (1 ≤ t) = true := by simpa using h4
  have ok : talkOk S N t = true := by
    unfold talkOk
    rw [h1, h2, h3, h4]; rfl
  walk_at "go"
  refine ⟨x, [], [(x, .ins a.Talk [("set_names", sx)])], rfl, .here, by simp, ?_⟩
  walk_at "go"
  have p2 : putD "number_names" (D.tup (N.map D.str)) [(("set_names" : Str), sx)] = ([("set_names", sx), ("number_names", D.tup (N.map D.str))] : List (Str × D)) := by
    rw [putD, if_neg (by decide +kernel)]; rfl
  have p3 : putD "top" (D.int t) ([("set_names", sx), ("number_names", D.tup (N.map D.str))] : List (Str × D)) = talkF sx N t := by
    rw [putD, if_neg (by decide +kernel), putD, if_neg (by decide +kernel)]; rfl
  refine ⟨x, [("set_names", sx)], [(x, .ins a.Talk [("set_names", sx), ("number_names", .tup (N.map D.str))])], rfl, by rw [← p2]; exact .here, by simp, ?_⟩
  walk_at "go"
  refine ⟨x, [("set_names", sx), ("number_names", .tup (N.map D.str))], [(x, .ins a.Talk (talkF sx N t))], rfl, by rw [← p3]; exact .here, by simp, ?_⟩
  walk_at "go"
  exact hp ok
theorem vc_Talk_wider (a : Ad) : ∀ ds M P EX, sp_Talk_wider a ds M P EX → t_Talk_wider a (startA N_Talk_wider ds) M (retK P EX) := by
  intro ds M P EX ⟨sx, S, N, t, d, hd, hx, hS, hN, ho, hM, hp, he⟩
  subst hd hM
  unfold t_Talk_wider
  show (aSeq _ _) [some (.obj a.Talk (talkF sx N t)), some d] _ _
  walk_at "go"
  refine cm0 ⟨d, rfl, rfl, ho, ?_⟩
  walk_at "go"
  refine ite_r (fun h1 => ?_) (fun h1 => ?_)
  · walk_at "go"
    refine he ?_
    cases d <;> simp_all [widB, namD]
  have h1 : namD d = true := by simpa using h1
  cases d with
  | str s =>
    have hs : namB s = true := h1
    have l8 : s.length ≤ 8 := by simp [namB] at hs; omega
    have fin : ∀ ys : List Str, ys.Perm (S ++ [s]) → PyProof.Rows.sortedS ys = true → ys = srtS (S ++ [s]) := fun ys h1 h2 => srt_unique h1 h2
    have hlen : (srtS (S ++ [s])).length = S.length + 1 := by rw [(srt_perm _).length_eq]; simp
    have small : Small2 (srtS (S ++ [s])) := ⟨by have := hS.1; omega, fun z hz => by
      have hz' := (srt_perm _).mem_iff.mp hz
      rcases List.mem_append.mp hz' with q | q
      · exact hS.2 z q
      · rw [List.mem_singleton.mp q]; exact ⟨by omega, ho.2⟩⟩
    have hN2 : Small2 N := ⟨by have := hN.1; omega, hN.2⟩
    rcases hx with rfl | rfl
    all_goals
      walk_at "go"
      refine AddA.tup (l := S.map D.str) (r := [D.str s]) (by have := hS.1; simp; omega) ?_
      rw [show S.map D.str ++ [D.str s] = (S ++ [s]).map D.str by simp]
      walk_at "go"
      refine SortedTA.txts (by have := hS.1; simp; omega) fun ys q1 q2 => ?_
      have e := fin ys q1 q2
      subst e
      walk_at "go"
      refine TupleNA.lst .fr ?_
      walk_at "go"
      intro x hx
      refine callM_one split_head ⟨x, _, srtS (S ++ [s]), N, t, rfl, Or.inr rfl, rfl, small, hN2, fun ok => ?_, fun ok => ?_⟩
      · refine ⟨rfl, ?_⟩
        rw [if_neg (by simp)]
        refine ⟨_, [], Split.all, ?_⟩
        walk_at "go"
        refine hp ?_
        simp [widB, hs, ok]
      · refine ⟨[], ⟨_, Split.all⟩, ?_⟩
        walk_at "go"
        refine he ?_
        simp [widB, ok]
  | _ => exact Bool.noConfusion h1
theorem vc_Talk_halves (a : Ad) : ∀ ds M P EX, sp_Talk_halves a ds M P EX → t_Talk_halves a (startA N_Talk_halves ds) M (retK P EX) := by
  intro ds M P EX ⟨sx, S, N, t, r, s, j, hd, hx, hS, hN, ho, hM, hw, hj, hm, h0, h1, hp⟩
  subst hd hM
  unfold t_Talk_halves
  show (aSeq _ _) [some (.obj a.Talk (talkF sx N t)), some (.int r), some (.str s), none, none, none] _ _
  walk_at "go"
  refine cm0 ⟨sx, S, N, t, .str s, rfl, hx, hS, hN, ho, rfl, fun _ => ?_, fun z => by rw [hw] at z; cases z⟩
  show (∃ fs, InsA ([] ++ []) (.obj a.Talk (talkF (.tpn ((srtS (S ++ [s])).map D.str)) N t)) a.Talk fs ∧ fs.lookup _ = none) ∧ _
  walk_at "go"
  refine cm0 ⟨.tpn ((srtS (S ++ [s])).map D.str), N, t, rfl, rfl, ?_⟩
  walk_at "go"
  refine TIndexA.mk hj hm ?_
  walk_at "go"
  refine cm0 ⟨sx, S, N, t, r, rfl, hx, by have := hS.1; omega, rfl, h0, h1, ?_⟩
  walk_at "go"
  have hjl : j ≤ 31 := by
    have := (List.getElem?_eq_some_iff.mp hj).1
    rw [(srt_perm _).length_eq] at this
    have := hS.1
    simp at *; omega
  have e2 : (1 : Int) * 2 ^ (j : Int).toNat = 2 ^ j := by simp
  have pos : (0 : Int) < 2 ^ j := Int.pow_pos (by decide)
  refine ShlA.int ⟨by omega, by omega, by decide⟩ ?_
  rw [e2]
  walk_at "go"
  refine ShlA.int ⟨by omega, by omega, by decide⟩ ?_
  rw [e2]
  walk_at "go"
  exact hp
theorem vc_is_world (a : Ad) : ∀ ds M P EX, sp_is_world a ds M P EX → t_is_world a (startA N_is_world ds) M (retK P EX) := by
  intro ds M P EX ⟨sx, S, N, t, cs, vs, hd, hx, hS, hM, hc, hv, lc, lv, h0, h1, hs, hp⟩
  subst hd hM
  unfold t_is_world
  show (aSeq _ _) [some (.obj a.Talk (talkF sx N t)), some (.tup [.tup (cs.map D.int), .tup (vs.map D.int)]), none, none, none, none] _ _
  walk_at "go"
  refine ite_r (fun h => absurd h (by simp)) (fun _ => ?_)
  walk_at "go"
  refine cm0 ⟨sx, S, N, t, rfl, hx, hS, rfl, ?_⟩
  walk_at "go"
  refine ite_r (fun h => absurd h (by simp [hc])) (fun _ => ?_)
  walk_at "go"
  refine cm0 ⟨sx, N, t, rfl, rfl, ?_⟩
  walk_at "go"
  refine ite_r (fun h => absurd h (by simp [hv])) (fun _ => ?_)
  walk_at "go"
  refine LcA.pure (List.replicate cs.length (D.bl true)) (by simp) (fun i d hd => ?_) ?_
  · rw [List.getElem?_map] at hd
    cases hq : cs[i]? with
    | none => rw [hq] at hd; cases hd
    | some c =>
      rw [hq] at hd; cases hd
      walk_at "go"
      refine cm0 ⟨c, some 0, none, rfl, rfl, ?_⟩
      have hc0 := h0 c (List.mem_of_getElem? hq)
      have e : ((some (0 : Int)).all (fun l => decide (l ≤ c)) && (none : Option Int).all (fun h => decide (c ≤ h))) = true := by simp [hc0]
      rw [e]
      have hi := (List.getElem?_eq_some_iff.mp hq).1
      exact lc_post (by simp; omega) (by rw [List.getElem?_replicate, if_pos hi])
  walk_at "go"
  have al : ∀ n : Nat, AllA [.lst (List.replicate n (D.bl true))] [] = AllA [.lst ((List.replicate n true).map D.bl)] [] := fun n => by rw [List.map_replicate]
  rw [al]
  refine AllA.lst .fr ?_
  rw [show (List.replicate cs.length true).all _root_.id = true by simp]
  walk_at "go"
  refine LcA.pure (List.replicate vs.length (D.bl true)) (by simp) (fun i d hd => ?_) ?_
  · rw [List.getElem?_map] at hd
    cases hq : vs[i]? with
    | none => rw [hq] at hd; cases hd
    | some c =>
      rw [hq] at hd; cases hd
      walk_at "go"
      refine cm0 ⟨sx, N, t, rfl, rfl, ?_⟩
      walk_at "go"
      refine cm0 ⟨c, some 0, some t, rfl, rfl, ?_⟩
      have hc0 := h1 c (List.mem_of_getElem? hq)
      have e : ((some (0 : Int)).all (fun l => decide (l ≤ c)) && (some t).all (fun h => decide (c ≤ h))) = true := by simp [hc0]
      rw [e]
      have hi := (List.getElem?_eq_some_iff.mp hq).1
      exact lc_post (by simp; omega) (by rw [List.getElem?_replicate, if_pos hi])
  walk_at "go"
  rw [al]
  refine AllA.lst .fr ?_
  rw [show (List.replicate vs.length true).all _root_.id = true by simp]
  walk_at "go"
  refine SumTA.tup ?_
  walk_at "go"
  refine cm0 ⟨sx, N, t, rfl, rfl, ?_⟩
  walk_at "go"
  have e : decide (cs.sum ≤ t) = true := by simp [hs]
  rw [e]
  exact ⟨_, Less.refl, hp⟩
theorem ixN_nat9 {k h : Nat} (hl : h < k) : ixN k (h : Int) = some h := by
  unfold ixN
  rw [if_pos (by omega)]
  simp [hl]
theorem vc_l_take (a : Ad) : ∀ ds M P EX, sp_l_take a ds M P EX → t_l_take a (startA N_l_take ds) M (retK P EX) := by
  intro ds M P EX ⟨p, l, B, m, hd, hM, ⟨x, c, t, hl, hc0, hc1, ht0, ht1, hB⟩, hB1, hm0, hm1, hp⟩
  subst hd hM hl
  unfold t_l_take
  show (aSeq _ _) [some (.ref p), some (.int m), none, none, none] _ _
  walk_at "go"
  refine ite_r (fun h => ?_) (fun h => ?_)
  · walk_at "go"
    refine hp _ _ (Int.emod_nonneg _ (by omega)) (Int.emod_lt_of_pos _ hm0) ⟨_, _, _, rfl, hc0, hc1, ht0, by omega, by omega⟩
  · walk_at "go"
    refine PowA.int ⟨by omega, by omega, ?_⟩ ?_
    · have h1 : (69621 * (t + 1)) * (t + 1) ≤ 69621000000 * 1000000 := Int.mul_le_mul (by omega) (by omega) (by omega) (by omega)
      have h0 : 0 ≤ (69621 * (t + 1)) * (t + 1) := Int.mul_nonneg (by omega) (by omega)
      generalize (69621 * (t + 1)) * (t + 1) = w1 at *
      generalize ((c * 48271 + 104729 * (t + 1) + 101) % 2147483629) ^ Int.toNat 5 = w2 at *
      omega
    walk_at "go"
    refine hp _ _ (Int.emod_nonneg _ (by omega)) (Int.emod_lt_of_pos _ hm0) ⟨_, _, _, rfl, hc0, hc1, by omega, by omega, by omega⟩
theorem atI_nat {α : Type} {l : List α} {i : Nat} {x : α} (h : l[i]? = some x) : atI l (i : Int) = some x := by
  have hi := (List.getElem?_eq_some_iff.mp h).1
  unfold atI
  have : ixN l.length (i : Int) = some i := ixN_nat9 hi
  rw [this]; exact h
theorem vc_l_pool (a : Ad) : ∀ ds M P EX, sp_l_pool a ds M P EX → t_l_pool a (startA N_l_pool ds) M (retK P EX) := by
  intro ds M P EX ⟨ns, k, hd, hM, h0, h1, hp⟩
  subst hd hM
  unfold t_l_pool
  show (aSeq _ _) [some (.lsk (ns.map D.int)), some (.int k), none] _ _
  walk_at "go"
  refine ite_r (fun h => ?_) (fun h => ?_)
  · have h' : k < ns.length := by simpa using h
    walk_at "go"
    obtain ⟨i, rfl⟩ : ∃ i : Nat, k = i := ⟨k.toNat, by omega⟩
    refine IxA.seq .sk (atI_nat (x := D.int (ns[i]'(by omega))) (by rw [List.getElem?_map, List.getElem?_eq_getElem (by omega)]; rfl)) ?_
    walk_at "go"
    intro q hq
    walk_at "go"
    exact hp q _ ⟨_, _, _, rfl, Int.emod_nonneg _ (by decide), Int.emod_lt_of_pos _ (by decide), by omega, by omega, by omega⟩
  · walk_at "go"
    intro q hq
    walk_at "go"
    exact hp q _ ⟨_, _, _, rfl, Int.emod_nonneg _ (by decide), Int.emod_lt_of_pos _ (by decide), by omega, by omega, by omega⟩
theorem py_strs : ∀ (L : List D), (∀ d ∈ L, ∃ c : Nat, d = .str ⟨#[c]⟩ ∧ c < 55296) → ∃ ps : List PyData, Paired IsPy L ps ∧ ∃ ss : List Str, ps = ss.map PyData.str ∧ ∀ x ∈ ss, PyData.strOk x = true
  | [], _ => ⟨[], .nil, [], rfl, fun _ h => nomatch h⟩
  | d :: L, h => by
    obtain ⟨c, rfl, hc⟩ := h d List.mem_cons_self
    obtain ⟨ps, h1, ss, rfl, h2⟩ := py_strs L fun x hx => h x (List.mem_cons_of_mem _ hx)
    refine ⟨_, .cons (.str _) h1, ⟨#[c]⟩ :: ss, rfl, fun x hx => ?_⟩
    rcases List.mem_cons.mp hx with rfl | hx
    · show (#[c] : Array Nat).all (· < 0x110000) = true
      simp; omega
    · exact h2 x hx
theorem shape_strs {ps : List PyData} (h : ∃ ss : List Str, ps = ss.map PyData.str ∧ ∀ x ∈ ss, PyData.strOk x = true) : SeqAt.shaped (.list ps) = true := by
  obtain ⟨ss, rfl, hs⟩ := h
  have h1 : ∀ ss : List Str, (∀ x ∈ ss, PyData.strOk x = true) → PyData.canLayAll0 (ss.map PyData.str) = true := by
    intro ss; induction ss with
    | nil => intro _; rfl
    | cons a r ih => intro h; simp [PyData.canLayAll0, PyData.canLay0, h a List.mem_cons_self, ih fun x hx => h x (List.mem_cons_of_mem _ hx)]
  have h2 : ∀ ss : List Str, PyData.depthAll (ss.map PyData.str) = 0 := by
    intro ss; induction ss with
    | nil => rfl
    | cons a r ih => simp [PyData.depthAll, PyData.depth, ih]
  unfold SeqAt.shaped
  simp [PyData.canLay0, PyData.depth, h1 ss hs, h2 ss]
theorem signs_get10 {z : Str} {i : Nat} {d : D} (h : (Ab.signs z)[i]? = some d) : ∃ c, z.cps.toList[i]? = some c ∧ d = .str ⟨#[c]⟩ := by
  unfold Ab.signs at h
  rw [List.getElem?_map] at h
  cases q : z.cps.toList[i]? with
  | none => rw [q] at h; cases h
  | some c => rw [q] at h; cases h; exact ⟨c, rfl, rfl⟩
theorem one_lt (a b : Nat) : ([a] < [b]) ↔ a < b := by
  simp [List.cons_lt_cons_iff]
theorem vc_l_is_name (a : Ad) : ∀ ds M P EX, sp_l_is_name a ds M P EX → t_l_is_name a (startA N_l_is_name ds) M (retK P EX) := by
  intro ds M P EX ⟨d, hd, hM, ho, hp⟩
  subst hd hM
  unfold t_l_is_name
  have ea : (Str.ofString "a").cps.toList = [97] := by decide +kernel
  have ez : (Str.ofString "z").cps.toList = [122] := by decide +kernel
  show (aSeq _ _) [some d, none] _ _
  cases d with
  | str z =>
    have hz : z.length ≤ 100000 := ho.1
    walk_at "go"
    refine LenA.str hz ?_
    walk_at "go"
    refine ite_r (fun h1 => ?_) (fun h1 => ?_)
    · walk_at "go"
      refine ite_r (fun h2 => ?_) (fun h2 => ?_)
      · walk_at "go"
        have e : namD (.str z) = false := by
          have : decide (z.length ≤ 8) = false := by simp at h2; simp; omega
          simp [namD, namB, this]
        rw [e] at hp; exact hp
      · walk_at "go"
        have l8 : z.length ≤ 8 := by simp at h2; omega
        have l1 : 1 ≤ z.length := by simp at h1; omega
        refine LcA.fil (fun i => (z.cps.toList[i]?).bind fun c => if 97 ≤ c ∧ c ≤ 122 then none else some (.str ⟨#[c]⟩)) (fun i d hd => ?_) ?_
        · obtain ⟨c, hc, rfl⟩ := signs_get10 hd
          have hi : i < 100000 := by
            have := (List.getElem?_eq_some_iff.mp hc).1
            have : z.cps.size = z.length := rfl
            simp at *; omega
          walk_at "go"
          refine ite_r (fun q1 => ?_) (fun q1 => ?_)
          · walk_at "go"
            refine ite_r (fun q2 => ?_) (fun q2 => ?_)
            · walk_at "go"
              refine fil_yes hi ?_
              rw [hc]
              have : ¬ (97 ≤ c ∧ c ≤ 122) := by
                simp [ea, ez, one_lt] at q1 q2
                omega
              simp [this]
            · refine fil_no ?_
              rw [hc]
              have : (97 ≤ c ∧ c ≤ 122) := by
                simp [ea, ez, one_lt] at q1 q2
                omega
              simp [this]
          · walk_at "go"
            refine fil_yes hi ?_
            rw [hc]
            have : ¬ (97 ≤ c ∧ c ≤ 122) := by
              simp [ea, ez, one_lt] at q1
              omega
            simp [this]
        · rw [show (Ab.signs z).length = z.cps.toList.length by simp [Ab.signs], fil_all]
          walk_at "go"
          generalize hL : z.cps.toList.filterMap (fun c => if 97 ≤ c ∧ c ≤ 122 then none else some (D.str ⟨#[c]⟩)) = L
          have hLl : L.length ≤ 8 := by
            rw [← hL]
            have := List.length_filterMap_le (fun c => if 97 ≤ c ∧ c ≤ 122 then none else some (D.str ⟨#[c]⟩)) z.cps.toList
            have : z.cps.size = z.length := rfl
            simp at *; omega
          have hLs : ∀ d ∈ L, ∃ c : Nat, d = .str ⟨#[c]⟩ ∧ c < 55296 := by
            rw [← hL]
            intro d hd
            obtain ⟨c, hm, hc⟩ := List.mem_filterMap.mp hd
            have := List.all_eq_true.mp ho.2 c hm
            by_cases q : 97 ≤ c ∧ c ≤ 122
            · rw [if_pos q] at hc; cases hc
            · rw [if_neg q] at hc; cases hc; exact ⟨c, rfl, by simpa using this⟩
          obtain ⟨ps, hp1, hp2⟩ := py_strs L hLs
          refine EqA.py (p := .list ps) (q := .list []) (.lst hp1) (.lst .nil) (shape_strs hp2) rfl ?_
          walk_at "go"
          have e : namD (.str z) = PyData.eqv (.list ps) (.list []) := by
            have e1 : PyData.eqv (.list ps) (.list []) = ps.isEmpty := by cases ps <;> rfl
            have e2 : ps.isEmpty = L.isEmpty := by cases hp1 <;> rfl
            rw [e1, e2, ← hL]
            simp only [namD, namB, l1, l8, decide_true, Bool.true_and]
            generalize z.cps.toList = cs
            induction cs with
            | nil => rfl
            | cons c r ih =>
              by_cases q : 97 ≤ c ∧ c ≤ 122
              · rw [List.all_cons, List.filterMap_cons, if_pos q, ← ih]
                simp [q]
              · rw [List.all_cons, List.filterMap_cons, if_neg q]
                simp [q]
          rw [← e]; exact hp
    · walk_at "go"
      have e : namD (.str z) = false := by
        have : decide (1 ≤ z.length) = false := by simp at h1; simp; omega
        simp [namD, namB, this]
      rw [e] at hp; exact hp
  | non => walk_at "go"; exact hp
  | bl b => walk_at "go"; exact hp
  | int i => walk_at "go"; exact hp
  | tup l => walk_at "go"; exact hp
  | lst l => walk_at "go"; exact hp
  | dic l => walk_at "go"; exact hp
  | ty n => exact ho.elim
  | ref n => exact ho.elim
  | tpn n => exact ho.elim
  | lsk n => exact ho.elim
  | obj n l => exact ho.elim
  | exc n => exact ho.elim
theorem ixN_nat11 {k h : Nat} (hl : h < k) : ixN k (h : Int) = some h := by
  unfold ixN
  rw [if_pos (by omega)]
  simp [hl]
theorem atI_nat11 {α : Type} {l : List α} {i : Nat} {x : α} (h : l[i]? = some x) : atI l (i : Int) = some x := by
  have hi := (List.getElem?_eq_some_iff.mp h).1
  unfold atI
  have : ixN l.length (i : Int) = some i := ixN_nat11 hi
  rw [this]; exact h
/-- an item at a place below the length -/
theorem at_some {α : Type} {l : List α} {r : Int} (h0 : 0 ≤ r) (h1 : r < l.length) : ∃ x, atI l r = some x ∧ x ∈ l := by
  obtain ⟨i, rfl⟩ : ∃ i : Nat, r = i := ⟨r.toNat, by omega⟩
  have hi : i < l.length := by omega
  exact ⟨l[i], atI_nat11 (List.getElem?_eq_getElem hi), List.getElem_mem hi⟩
theorem vc_l_odd (a : Ad) : ∀ ds M P EX, sp_l_odd a ds M P EX → t_l_odd a (startA N_l_odd ds) M (retK P EX) := by
  intro ds M P EX ⟨p, l, B, hd, hM, hl, hB, hp⟩
  subst hd hM
  unfold t_l_odd
  show (aSeq _ _) [some (.ref p), none] _ _
  walk_at "go"
  refine AddA.lst .fr .fr (by simp) ?_
  walk_at "go"
  refine cmA ⟨p, l, B, 18, rfl, rfl, hl, by omega, by omega, by omega, fun r l' r0 r1 hl' => ?_⟩
  obtain ⟨d, e, hm⟩ := at_some (l := [D.non, .bl true, .bl false, .int 0, .int (-1), .int 1, .int (10 ^ Int.toNat 30 - 1), .str "", .str "a", .str "12", .tup [], .tup [.str "a"], .lst [], .lst [.str "a"], .dic [], .dic [(.inr "a", .int 1)], .tup [.non], .lst [.tup []]]) r0 (by simpa using r1)
  refine IxA.seq .fr e ?_
  walk_at "go"
  have key : Odd d ∧ ∀ s, d = .str s → s.length ≤ 1000 := by
    simp only [List.mem_cons, List.not_mem_nil, or_false] at hm
    rcases hm with rfl | rfl | rfl | rfl | rfl | rfl | rfl | rfl | rfl | rfl | rfl | rfl | rfl | rfl | rfl | rfl | rfl | rfl
    all_goals first
      | exact ⟨trivial, fun s h => nomatch h⟩
      | exact ⟨⟨by decide +kernel, by decide +kernel⟩, fun s h => by cases h; decide +kernel⟩
  exact hp d l' key.1 key.2 hl'
theorem pw_inc : ∀ l : List Str, l.Pairwise (fun a b => leS a b = true) → l.Nodup → incB l = true
  | [], _, _ => rfl
  | [_], _, _ => rfl
  | a :: b :: r, h, nd => by
    have ih := pw_inc (b :: r) (List.pairwise_cons.mp h).2 (List.nodup_cons.mp nd).2
    have hab := (List.pairwise_cons.mp h).1 b List.mem_cons_self
    have ne : a ≠ b := fun e => (List.nodup_cons.mp nd).1 (by rw [e]; exact List.mem_cons_self)
    have lt : ltS a b = true := by
      cases q : ltS a b with
      | true => rfl
      | false =>
        have : leS b a = true := by simp [leS, q]
        exact absurd (leS_antisymm a b hab this) ne
    simp [incB, lt, ih]
theorem cut_to {l : List D} {k : Nat} (h : k ≤ l.length) : cutL l none (some (k : Int)) = l.take k := by
  unfold cutL
  have h1 : HT.sIx l.length 0 none = 0 := rfl
  have h2 : HT.sIx l.length l.length (some (k : Int)) = k := by
    have hk0 : ¬ ((k : Int) < 0) := by omega
    simp [HT.sIx, hk0]; try omega
  rw [h1, h2]; simp
theorem cut_from {l : List D} {k : Nat} (h : k ≤ l.length) : cutL l (some (k : Int)) none = l.drop k := by
  unfold cutL
  have h1 : HT.sIx l.length 0 (some (k : Int)) = k := by
    have hk0 : ¬ ((k : Int) < 0) := by omega
    simp [HT.sIx, hk0]; try omega
  have h2 : HT.sIx l.length l.length none = l.length := rfl
  rw [h1, h2, List.take_of_length_le (by simp)]
theorem vc_l_tongue (a : Ad) : ∀ ds M P EX, sp_l_tongue a ds M P EX → t_l_tongue a (startA N_l_tongue ds) M (retK P EX) := by
  intro ds M P EX ⟨p, l, B, hd, hM, hl, hB, hp⟩
  subst hd hM
  unfold t_l_tongue
  show (aSeq _ _) [some (.ref p), some (.int 3), some (.int 2), none, none] _ _
  walk_at "go"
  refine cmA ⟨p, l, B, 4, rfl, rfl, hl, by omega, by omega, by omega, fun r1 l1 r10 r11 hl1 => ?_⟩
  walk_at "go"
  refine cmA ⟨p, l1, B + 1, 3, rfl, rfl, hl1, by omega, by omega, by omega, fun r2 l2 r20 r21 hl2 => ?_⟩
  walk_at "go"
  obtain ⟨k, rfl⟩ : ∃ k : Nat, r1 = k := ⟨r1.toNat, by omega⟩
  obtain ⟨m, rfl⟩ : ∃ m : Nat, r2 = m := ⟨r2.toNat, by omega⟩
  refine cmA ⟨p, l2, B + 1 + 1, k + m, by simp, rfl, hl2, by omega, by omega, fun ns l3 hn nd nm hl3 => ?_⟩
  walk_at "go"
  have hk : k ≤ (ns.map D.str).length := by simp; omega
  refine SlA.lst .fr ?_
  rw [cut_to hk, ← List.map_take]
  walk_at "go"
  refine SortedA.txts .fr (by simp; omega) fun ys1 q1 q2 => ?_
  have e1 := srt_unique q1 q2
  subst e1
  walk_at "go"
  refine TupleNA.lst .fr ?_
  walk_at "go"
  refine SlA.lst .fr ?_
  rw [cut_from hk, ← List.map_drop]
  walk_at "go"
  refine SortedA.txts .fr (by simp; omega) fun ys2 q3 q4 => ?_
  have e2 := srt_unique q3 q4
  subst e2
  walk_at "go"
  refine TupleNA.lst .fr ?_
  walk_at "go"
  have p1 := srt_perm (ns.take k)
  have p2 := srt_perm (ns.drop k)
  have nd' : (ns.take k ++ ns.drop k).Nodup := by rw [List.take_append_drop]; exact nd
  obtain ⟨n1, n2, n3⟩ := List.nodup_append.mp nd'
  have tg : Tongue (srtS (ns.take k)) (srtS (ns.drop k)) := by
    refine ⟨?_, ?_, fun s hs => nm s ?_, fun s hs => nm s ?_, pw_inc _ (srt_pw _) (p1.symm.nodup n1), pw_inc _ (srt_pw _) (p2.symm.nodup n2), fun n hn hs => ?_⟩
    · rw [p1.length_eq]; simp; omega
    · rw [p2.length_eq]; simp; omega
    · exact List.mem_of_mem_take (p1.mem_iff.mp hs)
    · exact List.mem_of_mem_drop (p2.mem_iff.mp hs)
    · exact n3 n (p1.mem_iff.mp hs) n (p2.mem_iff.mp hn) rfl
  obtain ⟨x, c, t, e, b1, b2, b3, b4, b5⟩ := hl3
  exact hp _ _ _ tg ⟨x, c, t, e, b1, b2, b3, by omega, by omega⟩
theorem sub_len : ∀ {l m : List Str}, l.Nodup → (∀ x ∈ l, x ∈ m) → l.length ≤ m.length
  | [], _, _, _ => Nat.zero_le _
  | a :: r, m, nd, h => by
    have h1 := sub_len (m := m.erase a) (List.nodup_cons.mp nd).2 fun x hx => by
      have hne : x ≠ a := fun e => (List.nodup_cons.mp nd).1 (by rw [← e]; exact hx)
      exact (List.mem_erase_of_ne hne).mpr (h x (List.mem_cons_of_mem _ hx))
    have h2 := List.length_erase_of_mem (h a List.mem_cons_self)
    have h3 : 0 < m.length := List.length_pos_of_mem (h a List.mem_cons_self)
    rw [List.length_cons]; omega
theorem at_zero {α : Type} {d : α} {r : List α} : atI (d :: r) 0 = some d := by
  unfold atI ixN
  rw [if_pos (by simp)]
  simp
theorem inS7 {M : Mem} {sx : D} {S : List Str} {n : Str} {P : AK} (hx : Tp sx S) (q : P (.bl (decide (n ∈ S))) M) : InA (.str n) sx M P := by
  have hs : SeqR M sx (S.map D.str) := by rcases hx with rfl | rfl <;> constructor
  refine InA.seq (vs := S.map V.str) (vx := .str n) hs rfl ?_ rfl ?_
  · clear hs hx q
    induction S with
    | nil => exact .nil
    | cons a r ih => exact .cons ⟨rfl, rfl⟩ ih
  · have e : inV (.str n) (S.map V.str) = decide (n ∈ S) := by
      clear hs hx q
      induction S with
      | nil => rfl
      | cons a r ih =>
        simp only [inV, List.map_cons, List.any_cons] at ih ⊢
        rw [ih]
        by_cases h : n = a
        · subst h; simp [eqV]
        · have h' : ¬ a = n := fun z => h z.symm
          simp [eqV, h, h']
    rw [e]; exact q
theorem vc_l_fresh (a : Ad) : ∀ ds M P EX, sp_l_fresh a ds M P EX → t_l_fresh a (startA N_l_fresh ds) M (retK P EX) := by
  intro ds M P EX ⟨p, l, B, S, N, hd, hM, hl, hB, tg, hp⟩
  subst hd hM
  unfold t_l_fresh
  show (aSeq _ _) [some (.ref p), some (.tup [.tpn (S.map D.str), .tpn (N.map D.str)]), none, none] _ _
  obtain ⟨t1, t2, t3, t4, t5, t6, t7⟩ := tg
  walk_at "go"
  refine AddA.tup (l := S.map D.str) (r := N.map D.str) (by simp; omega) ?_
  rw [← List.map_append]
  walk_at "go"
  have e : ((((S ++ N).map D.str).length : Int) + 1) = ((S.length + N.length + 1 : Nat) : Int) := by simp
  rw [e]
  refine cmA ⟨p, l, B, S.length + N.length + 1, rfl, rfl, hl, by omega, by omega, fun ns l1 hn nd nm hl1 => ?_⟩
  walk_at "go"
  refine LcA.fil (fun i => (ns[i]?).bind fun s => if s ∈ S ++ N then none else some (D.str s)) (fun i d hd => ?_) ?_
  · rw [List.getElem?_map] at hd
    cases hq : ns[i]? with
    | none => rw [hq] at hd; cases hd
    | some s =>
      rw [hq] at hd; cases hd
      have hi := (List.getElem?_eq_some_iff.mp hq).1
      walk_at "go"
      refine inS7 (S := S ++ N) (Or.inl rfl) ?_
      walk_at "go"
      refine ite_r (fun h => ?_) (fun h => ?_)
      · walk_at "go"
        refine fil_yes (by omega) ?_
        have : s ∉ S ++ N := by simpa using h
        show ((ns[i]?).bind _) = _
        rw [hq]; exact if_neg this
      · refine fil_no ?_
        have : s ∈ S ++ N := by
          cases q : decide (s ∈ S ++ N) with
          | true => exact of_decide_eq_true q
          | false => rw [q] at h; cases h
        show ((ns[i]?).bind _) = _
        rw [hq]; exact if_pos this
  rw [List.length_map, fil_all]
  walk_at "go"
  generalize hL : ns.filterMap (fun s => if s ∈ S ++ N then none else some (D.str s)) = L
  have ne : ∃ s ∈ ns, s ∉ S ++ N := by
    apply Classical.byContradiction
    intro h
    have hsub : ∀ s ∈ ns, s ∈ S ++ N := fun s hs => Classical.byContradiction fun q => h ⟨s, hs, q⟩
    have := sub_len nd hsub
    simp at this
    omega
  have hne : L ≠ [] := by
    obtain ⟨s, hs, hq⟩ := ne
    intro e
    have : D.str s ∈ L := by
      rw [← hL]
      exact List.mem_filterMap.mpr ⟨s, hs, by rw [if_neg hq]⟩
    rw [e] at this
    exact absurd this List.not_mem_nil
  cases hc : L with
  | nil => exact absurd hc hne
  | cons d r =>
    have hd : d ∈ L := by rw [hc]; exact List.mem_cons_self
    rw [← hL] at hd
    obtain ⟨s, hs, hq⟩ := List.mem_filterMap.mp hd
    by_cases q : s ∈ S ++ N
    · rw [if_pos q] at hq; cases hq
    · rw [if_neg q] at hq; cases hq
      refine IxA.seq .fr at_zero ?_
      walk_at "go"
      exact hp s l1 (nm s hs) (fun z => q (List.mem_append_left _ z)) (fun z => q (List.mem_append_right _ z)) hl1
theorem ixN_nat14 {k h : Nat} (hl : h < k) : ixN k (h : Int) = some h := by
  unfold ixN
  rw [if_pos (by omega)]
  simp [hl]
theorem atI_nat14 {α : Type} {l : List α} {i : Nat} {x : α} (h : l[i]? = some x) : atI l (i : Int) = some x := by
  have hi := (List.getElem?_eq_some_iff.mp h).1
  unfold atI
  have : ixN l.length (i : Int) = some i := ixN_nat14 hi
  rw [this]; exact h
theorem Pool_mono {B B' : Int} {l : List D} (h : Pool B l) (h1 : B ≤ B') (h2 : B' ≤ 1000000) : Pool B' l := by
  obtain ⟨x, c, t, e, b1, b2, b3, b4, b5⟩ := h
  exact ⟨x, c, t, e, b1, b2, b3, by omega, h2⟩
theorem sum_set1 : ∀ (cs : List Int) (j : Nat), j < cs.length → (cs.set j (cs.getD j 0 + 1)).sum = cs.sum + 1
  | [], _, h => absurd h (Nat.not_lt_zero _)
  | c :: r, 0, _ => by simp; omega
  | c :: r, j + 1, h => by
    have := sum_set1 r j (by simpa using h)
    simp only [List.set_cons_succ, List.sum_cons, List.getD_cons_succ] at *
    omega
theorem vc_l_few (a : Ad) : ∀ ds M P EX, sp_l_few a ds M P EX → t_l_few a (startA N_l_few ds) M (retK P EX) := by
  intro ds M P EX ⟨p, l, B, t, S, N, hd, hM, hl, hB, ⟨t1, t2, _⟩, ht0, ht1, hp⟩
  subst hd hM
  unfold t_l_few
  show (aSeq _ _) [some (.ref p), some (.tup [.tpn (S.map D.str), .tpn (N.map D.str)]), some (.int 5), some (.int t), none, none, none, none] _ _
  walk_at "go"
  have e1 : ((S.map D.str).length : Int) = (S.length : Int) := by simp
  have e2 : [D.int 1, .int 2, .int 4, .int 8][S.length]? = some (D.int ((2 ^ S.length : Nat) : Int)) := by
    have : S.length = 0 ∨ S.length = 1 ∨ S.length = 2 ∨ S.length = 3 := by omega
    rcases this with q | q | q | q <;> rw [q] <;> rfl
  rw [e1]
  refine IxA.seq .fr (atI_nat14 e2) ?_
  have n8 : 2 ^ S.length ≤ 8 := Nat.pow_le_pow_right (n := 2) (by decide) t1
  have n1 : 0 < 2 ^ S.length := Nat.pow_pos (by decide)
  generalize 2 ^ S.length = n at *
  walk_at "go"
  refine LcA.pure (List.replicate n (D.int 0)) (by simp [rngD]) (fun i d hd => ?_) ?_
  · walk_at "go"
    have hi := (rngD_get hd).1
    exact lc_post (by simp; omega) (by rw [List.getElem?_replicate, if_pos (by simpa using hi)])
  walk_at "go"
  intro q hq
  walk_at "go"
  refine cm1 ⟨p, l, B, 6, rfl, rfl, hl, by omega, by omega, by omega, fun r1 l1 r10 r11 hl1 => ?_⟩
  walk_at "go"
  obtain ⟨k1, rfl⟩ : ∃ k : Nat, r1 = k := ⟨r1.toNat, by omega⟩
  refine ⟨fun i ρ' M' => ∃ (x : Option D) (l' : List D) (cs : List Int), ρ' = [some (.ref p), some (.tup [.tpn (S.map D.str), .tpn (N.map D.str)]), some (.int 5), some (.int t), some (.ref q), x, none, none] ∧ M' = [(p, .lst l'), (q, .lst (cs.map D.int))] ∧ Pool (B + 1 + i) l' ∧ cs.length = n ∧ (∀ c ∈ cs, 0 ≤ c) ∧ cs.sum = (i : Int), ⟨none, l1, List.replicate n 0, rfl, by simp, by simpa using hl1, by simp, by simp, by simp⟩, fun i d ρ' M' hx hj => ?_, fun ρ' M' hj => ?_⟩
  · obtain ⟨x, l', cs, rfl, rfl, hl', hn, hc, hs⟩ := hj
    have hi := (rngD_get hx).1
    have hi5 : i < 5 := by have : k1 < 6 := by omega
                           simp at hi; omega
    walk_at "go"
    have e3 : ((cs.map D.int).length : Int) = (n : Int) := by simp [hn]
    rw [e3]
    refine cm1 ⟨p, l', B + 1 + i, n, rfl, rfl, hl', by omega, by omega, by omega, fun r2 l2 r20 r21 hl2 => ?_⟩
    obtain ⟨j, rfl⟩ : ∃ k : Nat, r2 = k := ⟨r2.toNat, by omega⟩
    have hj : j < cs.length := by omega
    refine ⟨q, cs.map D.int, j, cs[j], rfl, rfl, by simp, by rw [List.getElem?_map, List.getElem?_eq_getElem hj]; rfl, ?_⟩
    walk_at "go"
    refine ⟨1, [(p, .lst l2), (q, .lst ((cs.set j (cs[j] + 1)).map D.int))], rfl, ?_, ?_⟩
    · have e4 : (cs.set j (cs[j] + 1)).map D.int = (cs.map D.int).set j (.int (if false = true then cs[j] - 1 else cs[j] + 1)) := by
        rw [if_neg (by simp), List.map_set]
      rw [e4]
      exact .there .here
    · have e5 : cs[j] = cs.getD j 0 := by rw [List.getD_eq_getElem?_getD, List.getElem?_eq_getElem hj]; rfl
      refine ⟨_, l2, cs.set j (cs[j] + 1), rfl, rfl, Pool_mono hl2 (by push_cast; omega) (by push_cast; omega), by simpa using hn, fun c hc' => ?_, ?_⟩
      · rcases List.mem_or_eq_of_mem_set hc' with z | z
        · exact hc c z
        · rw [z]; have := hc cs[j] (List.getElem_mem hj); omega
      · rw [e5, sum_set1 cs j hj, hs]; push_cast; rfl
  · obtain ⟨x, l', cs, rfl, rfl, hl', hn, hc, hs⟩ := hj
    rw [rngD_length] at hl' hs
    have hk : (k1 : Int) < 6 := r11
    walk_at "go"
    refine ⟨fun i acc M' => ∃ (l2 : List D) (vs : List Int), M' = [(p, .lst l2), (q, .lst (cs.map D.int))] ∧ acc = vs.map D.int ∧ vs.length = i ∧ (∀ v ∈ vs, 0 ≤ v ∧ v ≤ t) ∧ Pool (B + 10 + i) l2, ⟨l', [], rfl, rfl, rfl, by simp, Pool_mono hl' (by simp; omega) (by simp; omega)⟩, fun i d acc M' hx hj => ?_, fun acc M' hj => ?_⟩
    · obtain ⟨l2, vs, rfl, rfl, hv, hvb, hp2⟩ := hj
      have hi : i < 2 := by
        have := (List.getElem?_eq_some_iff.mp hx).1
        simp at this; omega
      walk_at "go"
      refine cm1 ⟨p, l2, B + 10 + i, t + 1, rfl, rfl, hp2, by omega, by omega, by omega, fun r2 l3 r20 r21 hl3 => ?_⟩
      refine ⟨by simp; omega, l3, vs ++ [r2], rfl, by simp, by simp [hv], fun v hv' => ?_, Pool_mono hl3 (by push_cast; omega) (by push_cast; omega)⟩
      rcases List.mem_append.mp hv' with z | z
      · exact hvb v z
      · rw [List.mem_singleton.mp z]; omega
    · obtain ⟨l2, vs, rfl, rfl, hv, hvb, hp2⟩ := hj
      walk_at "go"
      have hlen : (N.map D.str).length ≤ 2 := by simp; omega
      refine ⟨[(p, .lst l2)], (List.nil_sublist _).cons_cons _, hp cs vs l2 hn (by simpa using hv) hc (by rw [hs]; simp; omega) hvb (Pool_mono hp2 (by omega) (by omega))⟩
theorem ixN_nat15 {k h : Nat} (hl : h < k) : ixN k (h : Int) = some h := by
  unfold ixN
  rw [if_pos (by omega)]
  simp [hl]
theorem atI_nat15 {α : Type} {l : List α} {i : Nat} {x : α} (h : l[i]? = some x) : atI l (i : Int) = some x := by
  have hi := (List.getElem?_eq_some_iff.mp h).1
  unfold atI
  have : ixN l.length (i : Int) = some i := ixN_nat15 hi
  rw [this]; exact h
theorem at_some15 {α : Type} {l : List α} {r : Int} (h0 : 0 ≤ r) (h1 : r < l.length) : ∃ x, atI l r = some x ∧ x ∈ l := by
  obtain ⟨i, rfl⟩ : ∃ i : Nat, r = i := ⟨r.toNat, by omega⟩
  have hi : i < l.length := by omega
  exact ⟨l[i], atI_nat15 (List.getElem?_eq_getElem hi), List.getElem_mem hi⟩
/-- all signs small -/
def Sm (s : Str) (n : Nat) : Prop := s.length ≤ n ∧ ∀ c ∈ s.cps.toList, c < 55296
theorem Sm.odd {s : Str} {n : Nat} (h : Sm s n) (hn : n ≤ 1000) : Odd (.str s) ∧ ∀ z, D.str s = .str z → z.length ≤ 1000 :=
  ⟨⟨by have := h.1; omega, List.all_eq_true.mpr fun c hc => decide_eq_true (h.2 c hc)⟩, fun z e => by cases e; have := h.1; omega⟩
theorem Sm.cut {s : Str} {n : Nat} (h : Sm s n) (lo hi : Option Int) : Sm (cutS s lo hi) n := by
  refine ⟨Nat.le_trans (cutS_length s lo hi) h.1, fun c hc => h.2 c ?_⟩
  have hc' : c ∈ (s.cps.toList.drop (HT.sIx s.length 0 lo)).take (HT.sIx s.length s.length hi - HT.sIx s.length 0 lo) := hc
  exact List.mem_of_mem_drop (List.mem_of_mem_take hc')
theorem Sm.app {a b : Str} {n m : Nat} (ha : Sm a n) (hb : Sm b m) : Sm (a ++ b) (n + m) := by
  have e : (a ++ b).cps = a.cps ++ b.cps := rfl
  refine ⟨?_, fun c hc => ?_⟩
  · show (a ++ b).cps.size ≤ _
    rw [e, Array.size_append]
    have h1 := ha.1; have h2 := hb.1
    have e1 : a.cps.size = a.length := rfl
    have e2 : b.cps.size = b.length := rfl
    omega
  · rw [e, Array.toList_append] at hc
    rcases List.mem_append.mp hc with z | z
    · exact ha.2 c z
    · exact hb.2 c z
theorem str_app_len (a b : Str) : (a ++ b).length = a.length + b.length := by
  have e : (a ++ b).cps = a.cps ++ b.cps := rfl
  show (a ++ b).cps.size = _
  rw [e, Array.size_append]; rfl
theorem sing_len (c : Nat) : (⟨#[c]⟩ : Str).length = 1 := rfl
theorem vc_l_bent (a : Ad) : ∀ ds M P EX, sp_l_bent a ds M P EX → t_l_bent a (startA N_l_bent ds) M (retK P EX) := by
  intro ds M P EX ⟨p, l, B, s, hd, hM, hl, hB, s1, s2, s3, hp⟩
  subst hd hM
  unfold t_l_bent
  show (aSeq _ _) [some (.ref p), some (.str s), some (.int 1), none, none, none, none, none] _ _
  walk_at "go"
  refine cmA ⟨p, l, B, 5, rfl, rfl, hl, by omega, by omega, by omega, fun r1 l1 r10 r11 hl1 => ?_⟩
  walk_at "go"
  refine cmA ⟨p, l1, B + 1, 8, rfl, rfl, hl1, by omega, by omega, by omega, fun r2 l2 r20 r21 hl2 => ?_⟩
  walk_at "go"
  refine ite_r (fun h1 => ?_) (fun h1 => ?_)
  · walk_at "go"
    refine cmA ⟨p, l2, B + 1 + 1, rfl, rfl, hl2, by omega, fun d l3 hd1 hd2 hl3 => ?_⟩
    walk_at "go"
    obtain ⟨x, c, t, e, b1, b2, b3, b4, b5⟩ := hl3
    exact hp d l3 hd1 hd2 ⟨x, c, t, e, b1, b2, b3, by omega, by omega⟩
  · walk_at "go"
    have h1 : r2 ≠ 7 := of_decide_eq_false h1
    refine ite_r (fun _ => ?_) (fun h2 => ?_)
    · have hz : s.length ≤ 100000 := by omega
      walk_at "go"
      refine LenA.str hz ?_
      walk_at "go"
      refine cmA ⟨p, l2, B + 1 + 1, (s.length : Int), rfl, rfl, hl2, by omega, by omega, by omega, fun at' l3 r30 r31 hl3 => ?_⟩
      walk_at "go"
      refine cmA ⟨p, l3, B + 1 + 1 + 1, 10, rfl, rfl, hl3, by omega, by omega, by omega, fun r4 l4 r40 r41 hl4 => ?_⟩
      walk_at "go"
      have sl : (Str.ofString "abz A_0{`\n").cps.toList.length = 10 := by decide +kernel
      have ss : ∀ c ∈ (Str.ofString "abz A_0{`\n").cps.toList, c < 55296 := by decide +kernel
      obtain ⟨c, ec, hc⟩ := at_some15 (l := (Str.ofString "abz A_0{`\n").cps.toList) r40 (by rw [sl]; exact r41)
      refine IxA.str (by decide +kernel) ec ?_
      have s0 : Sm s 8 := ⟨s2, s3⟩
      have sc : Sm ⟨#[c]⟩ 1 := ⟨Nat.le_refl _, fun x hx => by
        have : x = c := by simpa using hx
        rw [this]; exact ss c hc⟩
      have a1 := cutS_length s none (some at')
      have a2 := cutS_length s (some (at' + 1)) none
      have a3 := cutS_length s (some at') none
      repeat first
        | walk_at "go1"
        | refine SlA.str hz ?_
        | refine AddA.str (by first | omega | (simp only [str_app_len, sing_len]; omega)) ?_
        | refine AddA.lst .fr .fr (by simp) ?_
      refine MulSA.str ⟨by decide, by decide⟩ hz fun z' hz1 hz2 => ?_
      have s2' : Sm z' 16 := ⟨by have : Int.toNat 2 = 2 := rfl
                                 rw [this] at hz1; omega, fun x hx => s3 x (hz2 x hx)⟩
      repeat first
        | walk_at "go1"
        | refine AddA.lst .fr .fr (by simp) ?_
        | refine RevA.str hz ?_
      have st : Sm (stepS s (-1)) 8 := ⟨by rw [stepS_length]; exact s2, fun x hx => s3 x (stepS_mem s x hx)⟩
      obtain ⟨d, ed, hd⟩ := at_some15 (l := [D.str (cutS s none (some at') ++ ⟨#[c]⟩ ++ cutS s (some (at' + 1)) none), .str (cutS s none (some at') ++ ⟨#[c]⟩ ++ cutS s (some at') none), .str (cutS s none (some at') ++ cutS s (some (at' + 1)) none), .str z', .str (stepS s (-1)), .tup [.str s], .lst [.str s]]) r20 (by simp only [List.length_cons, List.length_nil]; omega)
      refine IxA.seq .fr ed ?_
      have key : Odd d ∧ ∀ z, d = .str z → z.length ≤ 1000 := by
        simp only [List.mem_cons, List.not_mem_nil, or_false] at hd
        rcases hd with rfl | rfl | rfl | rfl | rfl | rfl | rfl
        · exact (((s0.cut _ _).app sc).app (s0.cut _ _)).odd (by decide)
        · exact (((s0.cut _ _).app sc).app (s0.cut _ _)).odd (by decide)
        · exact ((s0.cut _ _).app (s0.cut _ _)).odd (by decide)
        · exact s2'.odd (by decide)
        · exact st.odd (by decide)
        · exact ⟨trivial, fun z e => nomatch e⟩
        · exact ⟨trivial, fun z e => nomatch e⟩
      walk_at "go"
      obtain ⟨x, c', t, e, b1, b2, b3, b4, b5⟩ := hl4
      exact hp d l4 key.1 key.2 ⟨x, c', t, e, b1, b2, b3, by omega, by omega⟩
    · have h2 : decide (s = Str.ofString "") = true := by simpa using h2
      have e := of_decide_eq_true h2
      rw [e] at s1
      exact absurd s1 (by decide +kernel)
theorem ixN_nat16 {k h : Nat} (hl : h < k) : ixN k (h : Int) = some h := by
  unfold ixN
  rw [if_pos (by omega)]
  simp [hl]
theorem atI_nat16 {α : Type} {l : List α} {i : Nat} {x : α} (h : l[i]? = some x) : atI l (i : Int) = some x := by
  have hi := (List.getElem?_eq_some_iff.mp h).1
  unfold atI
  have : ixN l.length (i : Int) = some i := ixN_nat16 hi
  rw [this]; exact h
theorem at_some16 {α : Type} {l : List α} {r : Int} (h0 : 0 ≤ r) (h1 : r < l.length) : ∃ x, atI l r = some x ∧ x ∈ l := by
  obtain ⟨i, rfl⟩ : ∃ i : Nat, r = i := ⟨r.toNat, by omega⟩
  have hi : i < l.length := by omega
  exact ⟨l[i], atI_nat16 (List.getElem?_eq_getElem hi), List.getElem_mem hi⟩
theorem Pool_mono16 {B B' : Int} {l : List D} (h : Pool B l) (h1 : B ≤ B') (h2 : B' ≤ 1000000) : Pool B' l := by
  obtain ⟨x, c, t, e, b1, b2, b3, b4, b5⟩ := h
  exact ⟨x, c, t, e, b1, b2, b3, by omega, h2⟩
/-- letters to draw from -/
def Lets (z : Str) : Prop := 0 < z.length ∧ z.length ≤ 26 ∧ ∀ c ∈ z.cps.toList, 97 ≤ c ∧ c ≤ 122
theorem signs_get16 {z : Str} {i : Nat} {d : D} (h : (Ab.signs z)[i]? = some d) : ∃ c, z.cps.toList[i]? = some c ∧ d = .str ⟨#[c]⟩ := by
  unfold Ab.signs at h
  rw [List.getElem?_map] at h
  cases q : z.cps.toList[i]? with
  | none => rw [q] at h; cases h
  | some c => rw [q] at h; cases h; exact ⟨c, rfl, rfl⟩
theorem str_app_len16 (a b : Str) : (a ++ b).length = a.length + b.length := by
  have e : (a ++ b).cps = a.cps ++ b.cps := rfl
  show (a ++ b).cps.size = _
  rw [e, Array.size_append]; rfl
theorem sing_len16 (c : Nat) : (⟨#[c]⟩ : Str).length = 1 := rfl
theorem join_sing : ∀ cs : List Nat, (Str.join (Str.ofString "") (cs.map fun c => (⟨#[c]⟩ : Str))).cps.toList = cs
  | [] => rfl
  | [c] => rfl
  | c :: d :: r => by
    have ih := join_sing (d :: r)
    have e : (Str.join (Str.ofString "") ((c :: d :: r).map fun c => (⟨#[c]⟩ : Str))).cps = (#[c] ++ (Str.ofString "").cps) ++ (Str.join (Str.ofString "") ((d :: r).map fun c => (⟨#[c]⟩ : Str))).cps := rfl
    have e0 : (Str.ofString "").cps = #[] := rfl
    rw [e, e0, Array.toList_append, ih]
    rfl
theorem txt_join_sing (cs : List Nat) : (Txt.join (Str.ofString "") (cs.map fun c => (⟨#[c]⟩ : Str))).cps.toList = cs := by
  have h := PyProof.Rows.join_closes (sep := Str.ofString "") (sep' := Str.ofString "") (ys := cs.map fun c => (⟨#[c]⟩ : Str)) rfl
  rw [eq_of_beq h]; exact join_sing cs
theorem at_zero16 {α : Type} {d : α} {r : List α} : atI (d :: r) 0 = some d := by
  unfold atI ixN
  rw [if_pos (by simp)]
  simp
/-- the word and its variants -/
def vars16 (w : Str) (k : Int) : List Str := w :: ((List.range 26).map (97 + ·)).map fun c => cutS w none (some k) ++ (⟨#[c]⟩ : Str) ++ cutS w (some (k + 1)) none
theorem cut_l16 (w : Str) (k : Nat) (hk : k < w.length) : (cutS w none (some (k : Int))).cps.toList = w.cps.toList.take k ∧ (cutS w (some ((k : Int) + 1)) none).cps.toList = w.cps.toList.drop (k + 1) := by
  have h1 : HT.sIx w.length 0 none = 0 := rfl
  have h2 : HT.sIx w.length w.length (some (k : Int)) = k := by
    have hk0 : ¬ ((k : Int) < 0) := by omega
    simp [HT.sIx, hk0]; try omega
  have h3 : HT.sIx w.length 0 (some ((k : Int) + 1)) = k + 1 := by
    have hk0 : ¬ ((k : Int) + 1 < 0) := by omega
    simp [HT.sIx, hk0]; try omega
  have h4 : HT.sIx w.length w.length none = w.length := rfl
  constructor
  · show (w.cps.toList.drop (HT.sIx w.length 0 none)).take (HT.sIx w.length w.length (some (k : Int)) - HT.sIx w.length 0 none) = _
    rw [h1, h2]; simp
  · show (w.cps.toList.drop (HT.sIx w.length 0 (some ((k : Int) + 1)))).take (HT.sIx w.length w.length none - HT.sIx w.length 0 (some ((k : Int) + 1))) = _
    rw [h3, h4]
    refine List.take_of_length_le ?_
    have : w.cps.size = w.length := rfl
    simp; omega
theorem nam_of16 {s : Str} (h1 : 1 ≤ s.cps.toList.length) (h8 : s.cps.toList.length ≤ 8) (hc : ∀ c ∈ s.cps.toList, 97 ≤ c ∧ c ≤ 122) : namB s = true := by
  have e : s.length = s.cps.toList.length := (Array.length_toList).symm
  unfold namB
  rw [e, decide_eq_true h1, decide_eq_true h8, List.all_eq_true.mpr fun c h => decide_eq_true (hc c h)]
  rfl
theorem sub_len16 : ∀ {l m : List Str}, l.Nodup → (∀ x ∈ l, x ∈ m) → l.length ≤ m.length
  | [], _, _, _ => Nat.zero_le _
  | a :: r, m, nd, h => by
    have h1 := sub_len16 (m := m.erase a) (List.nodup_cons.mp nd).2 fun x hx => by
      have hne : x ≠ a := fun e => (List.nodup_cons.mp nd).1 (by rw [← e]; exact hx)
      exact (List.mem_erase_of_ne hne).mpr (h x (List.mem_cons_of_mem _ hx))
    have h2 := List.length_erase_of_mem (h a List.mem_cons_self)
    have h3 : 0 < m.length := List.length_pos_of_mem (h a List.mem_cons_self)
    rw [List.length_cons]; omega
theorem inM16 {M : Mem} {q : Addr} {S : List Str} {n : Str} {P : AK} (hx : (q, MO.lst (S.map D.str)) ∈ M) (h : P (.bl (decide (n ∈ S))) M) : InA (.str n) (.ref q) M P := by
  refine InA.seq (vs := S.map V.str) (vx := .str n) (.mu hx) rfl ?_ rfl ?_
  · clear hx h
    induction S with
    | nil => exact .nil
    | cons a r ih => exact .cons ⟨rfl, rfl⟩ ih
  · have e : inV (.str n) (S.map V.str) = decide (n ∈ S) := by
      clear hx h
      induction S with
      | nil => rfl
      | cons a r ih =>
        simp only [inV, List.map_cons, List.any_cons] at ih ⊢
        rw [ih]
        by_cases h : n = a
        · subst h; simp [eqV]
        · have h' : ¬ a = n := fun z => h z.symm
          simp [eqV, h, h']
    rw [e]; exact h
theorem vc_l_names (a : Ad) : ∀ ds M P EX, sp_l_names a ds M P EX → t_l_names a (startA N_l_names ds) M (retK P EX) := by
  intro ds M P EX ⟨p, l, B, n, hd, hM, hl, hB, hn, hp⟩
  subst hd hM
  unfold t_l_names
  show (aSeq _ _) [some (.ref p), some (.int n), none, none, none, none, none, none, none, none, none] _ _
  walk_at "go"
  refine cmA ⟨p, l, B, 2, rfl, rfl, hl, by omega, by omega, by omega, fun r1 l1 r10 r11 hl1 => ?_⟩
  obtain ⟨d, ed, hd⟩ := at_some16 (l := [D.str "abcdefghijklmnopqrstuvwxyz", .str "ab"]) r10 (by simpa using r11)
  have hL : ∃ z, d = .str z ∧ Lets z := by
    simp only [List.mem_cons, List.not_mem_nil, or_false] at hd
    rcases hd with rfl | rfl
    · exact ⟨_, rfl, by decide +kernel, by decide +kernel, by decide +kernel⟩
    · exact ⟨_, rfl, by decide +kernel, by decide +kernel, by decide +kernel⟩
  obtain ⟨z, rfl, z0, z1, z2⟩ := hL
  refine IxA.seq .fr ed ?_
  walk_at "go"
  intro q hq
  walk_at "go"
  refine ⟨fun i ρ' M' => ∃ (x4 x5 x6 x7 : Option D) (l' : List D) (ns : List Str), ρ' = [some (.ref p), some (.int n), some (.str z), some (.ref q), x4, x5, x6, x7, none, none, none] ∧ M' = [(p, .lst l'), (q, .lst (ns.map D.str))] ∧ ns.length = i ∧ ns.Nodup ∧ (∀ s ∈ ns, namB s = true) ∧ Pool (B + 1 + 12 * i) l', ⟨none, none, none, none, l1, [], rfl, rfl, rfl, List.nodup_nil, by simp, by simpa using hl1⟩, fun i d ρ' M' hx hj => ?_, fun ρ' M' hj => ?_⟩
  · obtain ⟨x4, x5, x6, x7, l', ns, rfl, rfl, hns, nd, nm, hl'⟩ := hj
    have hi := (rngD_get hx).1
    walk_at "go"
    refine ⟨.str, ?_⟩
    walk_at "go"
    refine cm1 ⟨p, l', B + 1 + 12 * i, 8, rfl, rfl, hl', by omega, by omega, by omega, fun r2 l2 r20 r21 hl2 => ?_⟩
    walk_at "go"
    have hz : z.length ≤ 100000 := by omega
    refine ⟨fun i2 acc M' => ∃ (l3 : List D) (cs : List Nat), M' = [(p, .lst l3), (q, .lst (ns.map D.str))] ∧ acc = cs.map (fun c => D.str ⟨#[c]⟩) ∧ cs.length = i2 ∧ (∀ c ∈ cs, 97 ≤ c ∧ c ≤ 122) ∧ Pool (B + 2 + 12 * i + i2) l3, ⟨l2, [], rfl, rfl, rfl, by simp, Pool_mono16 hl2 (by simp; omega) (by simp; omega)⟩, fun i2 d2 acc M' hx2 hj => ?_, fun acc M' hj => ?_⟩
    · obtain ⟨l3, cs, rfl, rfl, hcs, hcl, hl3⟩ := hj
      have hi2 := (rngD_get hx2).1
      walk_at "go"
      refine LenA.str hz ?_
      walk_at "go"
      refine cm1 ⟨p, l3, B + 2 + 12 * i + i2, (z.length : Int), rfl, rfl, hl3, by omega, by omega, by omega, fun r3 l4 r30 r31 hl4 => ?_⟩
      obtain ⟨c, ec, hc⟩ := at_some16 (l := z.cps.toList) r30 (by rw [Array.length_toList]; exact r31)
      refine IxA.str hz ec ?_
      refine ⟨by simp; omega, l4, cs ++ [c], rfl, by simp, by simp [hcs], fun x hx => ?_, Pool_mono16 hl4 (by push_cast; omega) (by push_cast; omega)⟩
      rcases List.mem_append.mp hx with y | y
      · exact hcl x y
      · rw [List.mem_singleton.mp y]; exact z2 c hc
    · obtain ⟨l3, cs, rfl, rfl, hcs, hcl, hl3⟩ := hj
      rw [rngD_length] at hcs hl3
      walk_at "go"
      rw [show cs.map (fun c => D.str ⟨#[c]⟩) = (cs.map fun c => (⟨#[c]⟩ : Str)).map D.str by simp]
      have hc8 : cs.length ≤ 8 := by omega
      have hc1 : 1 ≤ cs.length := by omega
      refine JoinA.mk .fr (by
        have e0 : (Str.ofString "").length = 0 := rfl
        rw [e0, List.map_map]
        have : (cs.map ((fun x : Str => x.length) ∘ fun c => (⟨#[c]⟩ : Str))).sum ≤ cs.length := by
          clear hcs hcl hl3 hc8 hc1
          induction cs with
          | nil => simp
          | cons c r ih => simp only [List.map_cons, List.sum_cons, List.length_cons, Function.comp_apply] at *
                           have : (⟨#[c]⟩ : Str).length = 1 := rfl
                           omega
        omega) ?_
      have hw := txt_join_sing cs
      generalize Txt.join (Str.ofString "") (cs.map fun c => (⟨#[c]⟩ : Str)) = w at hw
      have hwl : w.length = cs.length := by rw [← hw]; exact (Array.length_toList).symm
      walk_at "go"
      refine LenA.str (by omega) ?_
      walk_at "go"
      refine cm1 ⟨p, l3, B + 2 + 12 * i + (1 + r2).toNat, (w.length : Int), rfl, rfl, hl3, by omega, by omega, by omega, fun at' l5 r50 r51 hl5 => ?_⟩
      have hwz : w.length ≤ 100000 := by omega
      have v1 := cutS_length w none (some at')
      have v2 := cutS_length w (some (at' + 1)) none
      walk_at "go"
      refine LcA.pure (((List.range 26).map (97 + ·)).map fun c => D.str (cutS w none (some at') ++ (⟨#[c]⟩ : Str) ++ cutS w (some (at' + 1)) none)) (by rw [List.length_map, List.length_map, List.length_range]; decide +kernel) (fun i3 d3 hd3 => ?_) ?_
      · have ab : (Str.ofString "abcdefghijklmnopqrstuvwxyz").cps.toList = (List.range 26).map (97 + ·) := by decide +kernel
        obtain ⟨c3, ec3, rfl⟩ := signs_get16 hd3
        rw [ab] at ec3
        repeat first
          | walk_at "go1"
          | refine SlA.str hwz ?_
          | refine AddA.str (by first | omega | (simp only [str_app_len16, sing_len16]; omega)) ?_
        refine lc_post (by simp) ?_
        rw [List.getElem?_map, ec3]
        rfl
      · walk_at "go"
        refine AddA.lst .fr .fr (by simp) ?_
        rw [show [D.str w] ++ ((List.range 26).map (97 + ·)).map (fun c => D.str (cutS w none (some at') ++ (⟨#[c]⟩ : Str) ++ cutS w (some (at' + 1)) none)) = (vars16 w at').map D.str by simp [vars16]]
        walk_at "go"
        refine LcA.fil (fun i => ((vars16 w at')[i]?).bind fun s => if s ∈ ns then none else some (D.str s)) (fun i4 d4 hd4 => ?_) ?_
        · rw [List.getElem?_map] at hd4
          cases hq4 : (vars16 w at')[i4]? with
          | none => rw [hq4] at hd4; cases hd4
          | some s =>
            rw [hq4] at hd4; cases hd4
            have hi4 := (List.getElem?_eq_some_iff.mp hq4).1
            have hv : (vars16 w at').length = 27 := by simp [vars16]
            walk_at "go"
            refine inM16 (S := ns) (by simp) ?_
            walk_at "go"
            refine ite_r (fun h => ?_) (fun h => ?_)
            · walk_at "go"
              refine fil_yes (by omega) ?_
              have : s ∉ ns := by simpa using h
              show (((vars16 w at')[i4]?).bind _) = _
              rw [hq4]; exact if_neg this
            · refine fil_no ?_
              have : s ∈ ns := by
                cases q : decide (s ∈ ns) with
                | true => exact of_decide_eq_true q
                | false => rw [q] at h; cases h
              show (((vars16 w at')[i4]?).bind _) = _
              rw [hq4]; exact if_pos this
        · rw [List.length_map, fil_all]
          walk_at "go"
          refine ⟨.mlst (l := ns.map D.str) (by simp), ?_⟩
          walk_at "go"
          have hvn : ∀ s ∈ vars16 w at', namB s = true := by
            obtain ⟨k, rfl⟩ : ∃ k : Nat, at' = k := ⟨at'.toNat, by omega⟩
            obtain ⟨ct1, ct2⟩ := cut_l16 w k (by omega)
            intro s hs
            rcases List.mem_cons.mp hs with rfl | hs
            · exact nam_of16 (by rw [hw]; exact hc1) (by rw [hw]; exact hc8) (by rw [hw]; exact hcl)
            · obtain ⟨c0, hc0, rfl⟩ := List.mem_map.mp hs
              obtain ⟨m0, hm0, rfl⟩ := List.mem_map.mp hc0
              have hm0 := List.mem_range.mp hm0
              have e : (cutS w none (some (k : Int)) ++ (⟨#[97 + m0]⟩ : Str) ++ cutS w (some ((k : Int) + 1)) none).cps.toList = w.cps.toList.take k ++ [97 + m0] ++ w.cps.toList.drop (k + 1) := by
                rw [← ct1, ← ct2]
                have e1 : (cutS w none (some (k : Int)) ++ (⟨#[97 + m0]⟩ : Str) ++ cutS w (some ((k : Int) + 1)) none).cps = ((cutS w none (some (k : Int))).cps ++ #[97 + m0]) ++ (cutS w (some ((k : Int) + 1)) none).cps := rfl
                rw [e1]; simp
              refine nam_of16 ?_ ?_ ?_
              · rw [e]; simp; omega
              · rw [e, hw]; simp; omega
              · rw [e, hw]
                intro x hx
                simp only [List.mem_append, List.mem_singleton] at hx
                rcases hx with (y | y) | y
                · exact hcl x (List.mem_of_mem_take y)
                · omega
                · exact hcl x (List.mem_of_mem_drop y)
          have ne : ∃ s ∈ vars16 w at', s ∉ ns := by
            apply Classical.byContradiction
            intro h
            have nd26 : (((List.range 26).map (97 + ·)).map fun c => cutS w none (some at') ++ (⟨#[c]⟩ : Str) ++ cutS w (some (at' + 1)) none).Nodup := by
              rw [List.map_map]
              refine List.pairwise_map.mpr (List.nodup_range.imp fun {a b} hab e => hab ?_)
              have e2 := congrArg (fun x : Str => x.cps.toList) e
              have e1 : ∀ m : Nat, (cutS w none (some at') ++ (⟨#[97 + m]⟩ : Str) ++ cutS w (some (at' + 1)) none).cps.toList = (cutS w none (some at')).cps.toList ++ ((97 + m) :: (cutS w (some (at' + 1)) none).cps.toList) := fun m => by
                have e1 : (cutS w none (some at') ++ (⟨#[97 + m]⟩ : Str) ++ cutS w (some (at' + 1)) none).cps = ((cutS w none (some at')).cps ++ #[97 + m]) ++ (cutS w (some (at' + 1)) none).cps := rfl
                rw [e1]; simp
              simp only [Function.comp_apply, e1] at e2
              have e3 := List.append_cancel_left e2
              have := (List.cons.inj e3).1
              omega
            have := sub_len16 nd26 (m := ns) fun x hx => Classical.byContradiction fun q => h ⟨x, List.mem_cons_of_mem _ hx, q⟩
            simp at this
            omega
          generalize hL : (vars16 w at').filterMap (fun s => if s ∈ ns then none else some (D.str s)) = L
          have hne : L ≠ [] := by
            obtain ⟨s, hs, hq⟩ := ne
            intro e
            have : D.str s ∈ L := by
              rw [← hL]
              exact List.mem_filterMap.mpr ⟨s, hs, by rw [if_neg hq]⟩
            rw [e] at this
            exact absurd this List.not_mem_nil
          cases hc : L with
          | nil => exact absurd hc hne
          | cons d0 r =>
            have hd0 : d0 ∈ L := by rw [hc]; exact List.mem_cons_self
            rw [← hL] at hd0
            obtain ⟨s, hs, hq⟩ := List.mem_filterMap.mp hd0
            by_cases q0 : s ∈ ns
            · rw [if_pos q0] at hq; cases hq
            · rw [if_neg q0] at hq; cases hq
              refine IxA.seq .fr at_zero16 ?_
              walk_at "go"
              refine AppA.mk (.there .here) (by simp; omega) ?_
              walk_at "go"
              refine ⟨_, _, _, _, l5, ns ++ [s], rfl, by simp, by simp [hns], ?_, fun x hx => ?_, Pool_mono16 hl5 (by push_cast; omega) (by push_cast; omega)⟩
              · exact List.nodup_append.mpr ⟨nd, by simp, fun a ha b hb e => q0 (by rw [List.mem_singleton.mp hb] at e; rw [← e]; exact ha)⟩
              · rcases List.mem_append.mp hx with y | y
                · exact nm x y
                · rw [List.mem_singleton.mp y]; exact hvn s hs
  · obtain ⟨x4, x5, x6, x7, l', ns, rfl, rfl, hns, nd, nm, hl'⟩ := hj
    walk_at "go"
    rw [rngD_length] at hns hl'
    exact hp ns l' (by simpa using hns) nd nm (Pool_mono16 hl' (by simp; omega) (by omega))
/-- the first place -/
theorem first_at {l : List Str} {s : Str} (h : s ∈ l) : ∃ j : Nat, l[j]? = some s ∧ ∀ m, m < j → l[m]? ≠ some s := by
  induction l with
  | nil => cases h
  | cons a r ih =>
    by_cases e : a = s
    · exact ⟨0, by rw [e]; rfl, fun m hm => absurd hm (Nat.not_lt_zero m)⟩
    · rcases List.mem_cons.mp h with z | z
      · exact absurd z.symm e
      · obtain ⟨j, h1, h2⟩ := ih z
        refine ⟨j + 1, by simpa using h1, fun m hm => ?_⟩
        cases m with
        | zero => simpa using e
        | succ m => simpa using h2 m (by omega)
theorem wid_len {S N : List Str} {t : Int} {s : Str} (h : widB S N t (.str s) = true) : S.length ≤ 2 := by
  simp only [widB, talkOk, areB, Bool.and_eq_true, decide_eq_true_eq] at h
  have := h.2.1.1.1.1
  rw [(srt_perm _).length_eq] at this
  simp at this
  omega
theorem vc_l_refused (a : Ad) : ∀ ds M P EX, sp_l_refused a ds M P EX → t_l_refused a (startA N_l_refused ds) M (retK P EX) := by
  intro ds M P EX ⟨sx, S, N, t, cs, vs, d, hd, hx, hS, hN, ho, hM, hs, hcl, hc0, hcs, hp⟩
  subst hd hM
  unfold t_l_refused
  show (aSeq _ _) [some (.obj a.Talk (talkF sx N t)), some (.tup [isD cs, isD vs]), some d, none, none] _ _
  walk_at "go"
  refine cmA ⟨sx, S, N, t, cs, vs, d, rfl, hx, hS, hN, ho, rfl, fun bad => ?_, fun s e ok => ?_⟩
  · walk_at "go"
    refine Or.inl ⟨by simp, rfl, by simp, by simp, ?_⟩
    show (aSeq _ _) [some (.obj a.Talk (talkF sx N t)), some (.tup [isD cs, isD vs]), some d, some (.exc a.NoTalk), none] _ _
    walk_at "go"
    refine .one (.head _) ?_
    walk_at "go"
    refine .tup (cs := [a.NoSaying, a.NoWorld]) (.tail _ (.head _)) ?_
    walk_at "go"
    rw [bad] at hp
    exact hp
  · subst e
    obtain ⟨j, j1, j2⟩ := first_at (l := srtS (S ++ [s])) (s := s) ((srt_perm _).mem_iff.mpr (by simp))
    refine ⟨j, wid_len ok, hcl, hc0, hcs, hs s rfl, j1, j2, fun q => ?_⟩
    repeat (first | with_reducible refine rk_z ?_ | walk_at "go1")
    rw [ok] at hp
    exact hp
theorem low_dec : ∀ n : Nat, n < 3 → ∀ j : Nat, j < n + 1 → ∀ r : Nat, r < 2 ^ n → 0 ≤ lowI (r : Int) j ∧ lowI (r : Int) j + 2 ^ j < 2 ^ (n + 1) := by decide
def nwR (j r : Nat) (c : Int) (row : List Int) (i : Nat) : List Int := (row.set (lowI r j).toNat (c - (i : Int))).set (lowI r j + 2 ^ j).toNat (i : Int)
def nwS (j r : Nat) (c : Int) (rows : List (List Int)) : List (List Int) := rows.flatMap fun row => (List.range (c.toNat + 1)).map (nwR j r c row)
theorem rowsP_cons (j r : Nat) (c : Int) (cs : List Int) (rows : List (List Int)) : rowsP j r (c :: cs) rows = rowsP j (r + 1) cs (nwS j r c rows) := rfl
def rowD (row : List Int) : D := .lst (row.map D.int)
theorem nwS_length (j r : Nat) (c : Int) : ∀ rows : List (List Int), (nwS j r c rows).length = rows.length * (c.toNat + 1)
  | [] => by simp [nwS]
  | row :: rest => by
    have ih := nwS_length j r c rest
    unfold nwS at ih ⊢
    rw [List.flatMap_cons, List.length_append, ih, List.length_map, List.length_range, List.length_cons, Nat.add_mul]
    omega
theorem nwS_rows {j r : Nat} {c : Int} {rows : List (List Int)} {n : Nat} (h : ∀ row ∈ rows, row.length = n) : ∀ row ∈ nwS j r c rows, row.length = n := by
  intro row hr
  obtain ⟨row0, h0, h1⟩ := List.mem_flatMap.mp hr
  obtain ⟨i, _, rfl⟩ := List.mem_map.mp h1
  unfold nwR
  rw [List.length_set, List.length_set]
  exact h row0 h0
theorem two_pow_ge (n : Nat) : n + 1 ≤ 2 ^ n := by
  induction n with
  | zero => decide
  | succ n ih => rw [Nat.pow_succ]; omega
theorem py_ints18 : ∀ l : List Int, Paired IsPy (l.map D.int) (l.map PyData.int)
  | [] => .nil
  | i :: r => .cons (.int i) (py_ints18 r)
theorem py_items18 (vs : List Int) : ∀ rows : List (List Int), Paired IsPy (rows.map fun row => (shItem vs row).1) (rows.map fun row => (shItem vs row).2)
  | [] => .nil
  | row :: r => .cons (.tup (.cons (.tup (py_ints18 row)) (.cons (.tup (py_ints18 vs)) .nil))) (py_items18 vs r)
theorem vc_shares (a : Ad) : ∀ ds M P EX, sp_shares a ds M P EX → t_shares a (startA N_shares ds) M (retK P EX) := by
  intro ds M P EX ⟨sx, S, N, t, cs, vs, d, hd, hx, hS, hN, ho, hM, bad, good⟩
  subst hd hM
  unfold t_shares
  show (aSeq _ _) [some (.obj a.Talk (talkF sx N t)), some (.tup [.tup (cs.map D.int), .tup (vs.map D.int)]), some d, none, none, none, none, none, none, none, none] _ _
  walk_at "go"
  refine cm0 ⟨sx, S, N, t, d, rfl, hx, hS, hN, ho, rfl, fun ok => ?_, fun no => ?_⟩
  · obtain ⟨s, rfl⟩ : ∃ s, d = .str s := by
      cases d with
      | str s => exact ⟨_, rfl⟩
      | _ => exact Bool.noConfusion ok
    obtain ⟨j, hn2, hcl, hc0, hcs, hsl, hj, hjm, hp⟩ := good s rfl ok
    have hws : (srtS (S ++ [s])).length = S.length + 1 := by rw [(srt_perm _).length_eq]; simp
    show (∃ fs, InsA ([] ++ []) (.obj a.Talk (talkF (.tpn ((srtS (S ++ [s])).map D.str)) N t)) a.Talk fs ∧ fs.lookup _ = none) ∧ _
    walk_at "go"
    refine cm0 ⟨.tpn ((srtS (S ++ [s])).map D.str), srtS (S ++ [s]), N, t, rfl, Or.inr rfl, by omega, rfl, ?_⟩
    rw [hws]
    have pl : (2 : Int) ^ (S.length + 1) ≤ 8 := by
      rcases (show S.length = 0 ∨ S.length = 1 ∨ S.length = 2 by omega) with h | h | h <;> rw [h] <;> decide
    have pn : ((2 : Int) ^ (S.length + 1)).toNat = 2 ^ (S.length + 1) := by
      rcases (show S.length = 0 ∨ S.length = 1 ∨ S.length = 2 by omega) with h | h | h <;> rw [h] <;> decide
    have p0 : (0 : Int) < 2 ^ (S.length + 1) := Int.pow_pos (by decide)
    have hjl : j < S.length + 1 := by
      have := (List.getElem?_eq_some_iff.mp hj).1
      omega
    walk_at "go"
    refine MulA.lst .fr (by omega) (by rw [pn]; have : 2 ^ (S.length + 1) ≤ 8 := by (rcases (show S.length = 0 ∨ S.length = 1 ∨ S.length = 2 by omega) with h | h | h <;> rw [h] <;> decide)
                                       simp only [List.length_singleton]; omega) ?_
    rw [pn, show (List.replicate (2 ^ (S.length + 1)) [D.int 0]).flatten = (List.replicate (2 ^ (S.length + 1)) (0 : Int)).map D.int by
      generalize 2 ^ (S.length + 1) = n
      induction n with
      | zero => rfl
      | succ n ih => rw [List.replicate_succ, List.flatten_cons, ih, List.replicate_succ]; rfl]
    walk_at "go"
    refine ⟨fun i ρ' M' => M' = [] ∧ ∃ (rows : List (List Int)) (x6 x7 x8 x9 x10 : Option D), ρ' = [some (.obj a.Talk (talkF sx N t)), some (.tup [.tup (cs.map D.int), .tup (vs.map D.int)]), some (.str s), some (.lst (rows.map rowD)), some (.tup (cs.map D.int)), some (.tup (vs.map D.int)), x6, x7, x8, x9, x10] ∧
      rowsP j i (cs.drop i) rows = rowsP j 0 cs [List.replicate (2 ^ (S.length + 1)) 0] ∧ (∀ row ∈ rows, row.length = 2 ^ (S.length + 1)) ∧ rows.length ≤ 2 ^ ((cs.take i).sum.toNat), ⟨rfl, [List.replicate (2 ^ (S.length + 1)) 0], none, none, none, none, none, rfl, rfl, fun row hr => by rw [List.mem_singleton.mp hr]; simp, by simp⟩, fun i d ρ' M' hx' hj' => ?_, fun ρ' M' hj' => ?_⟩
    · obtain ⟨rfl, rows, x6, x7, x8, x9, x10, rfl, he, hr, hrl⟩ := hj'
      obtain ⟨y, hy, rfl⟩ := enumD_get hx'
      rw [List.getElem?_map] at hy
      cases hq : cs[i]? with
      | none => rw [hq] at hy; cases hy
      | some c =>
        rw [hq] at hy; cases hy
        obtain ⟨hl, e3⟩ := List.getElem?_eq_some_iff.mp hq
        have e2 : cs.drop i = c :: cs.drop (i + 1) := by rw [List.drop_eq_getElem_cons hl, e3]
        have hcm : c ∈ cs := List.mem_of_getElem? hq
        have hc := hc0 c hcm
        obtain ⟨l0, l1⟩ := low_dec S.length (by omega) j hjl i (by omega)
        have tk : (cs.take (i + 1)).sum = (cs.take i).sum + c := by
          rw [List.take_succ_eq_append_getElem hl, List.sum_append, e3]; simp
        have t0 : ∀ k : Nat, 0 ≤ (cs.take k).sum := fun k => by
          have : ∀ l : List Int, (∀ c ∈ l, 0 ≤ c) → 0 ≤ l.sum := fun l => by
            induction l with
            | nil => intro _; decide
            | cons x r ih =>
              intro h
              have := ih fun c hc => h c (List.mem_cons_of_mem _ hc)
              have := h x List.mem_cons_self
              rw [List.sum_cons]; omega
          exact this _ fun c hc => hc0 c (List.mem_of_mem_take hc)
        have t5 : (cs.take (i + 1)).sum ≤ cs.sum := by
          have h1 : (cs.take (i + 1)).sum + (cs.drop (i + 1)).sum = cs.sum := by rw [← List.sum_append, List.take_append_drop]
          have : ∀ l : List Int, (∀ c ∈ l, 0 ≤ c) → 0 ≤ l.sum := fun l => by
            induction l with
            | nil => intro _; decide
            | cons x r ih =>
              intro h
              have := ih fun c hc => h c (List.mem_cons_of_mem _ hc)
              have := h x List.mem_cons_self
              rw [List.sum_cons]; omega
          have := this (cs.drop (i + 1)) fun c hc => hc0 c (List.mem_of_mem_drop hc)
          omega
        have tn : (cs.take (i + 1)).sum.toNat = (cs.take i).sum.toNat + c.toNat := by have := t0 i; omega
        have bnd : (nwS j i c rows).length ≤ 2 ^ ((cs.take (i + 1)).sum.toNat) := by
          rw [nwS_length, tn, Nat.pow_add]
          exact Nat.mul_le_mul hrl (two_pow_ge _)
        have b32 : (nwS j i c rows).length ≤ 32 := Nat.le_trans bnd (by
          have : (cs.take (i + 1)).sum.toNat ≤ 5 := by omega
          exact Nat.pow_le_pow_right (by decide) this)
        walk_at "go"
        refine cm0 ⟨sx, S, N, t, i, s, j, rfl, hx, hS, hN, ho, rfl, ok, hj, hjm, by omega, by rw [hcl] at hl; exact_mod_cast hl, ?_⟩
        walk_at "go"
        have ec0 : lowI (i : Int) j = ((lowI (i : Int) j).toNat : Int) := by omega
        have ec1 : lowI (i : Int) j + 2 ^ j = ((lowI (i : Int) j + 2 ^ j).toNat : Int) := by have : (0 : Int) < 2 ^ j := Int.pow_pos (by decide); omega
        have lt1 : (lowI (i : Int) j + 2 ^ j).toNat < 2 ^ (S.length + 1) := by omega
        have lt0 : (lowI (i : Int) j).toNat < 2 ^ (S.length + 1) := by have : (0 : Int) < 2 ^ j := Int.pow_pos (by decide); omega
        refine ⟨fun k acc M' => M' = [] ∧ acc = (nwS j i c (rows.take k)).map rowD, ⟨rfl, rfl⟩, fun k d acc M' hk hjk => ?_, fun acc M' hjk => ?_⟩
        · obtain ⟨rfl, rfl⟩ := hjk
          rw [List.getElem?_map] at hk
          cases hqk : rows[k]? with
          | none => rw [hqk] at hk; cases hk
          | some row =>
            rw [hqk] at hk; cases hk
            obtain ⟨hkl, ek3⟩ := List.getElem?_eq_some_iff.mp hqk
            have hrow := hr row (List.mem_of_getElem? hqk)
            have ltk : (nwS j i c (rows.take k)).length ≤ 32 := by
              refine Nat.le_trans ?_ b32
              rw [nwS_length, nwS_length]
              exact Nat.mul_le_mul_right _ (by rw [List.length_take]; omega)
            walk_at "go"
            refine ⟨fun m acc M' => M' = [] ∧ acc = (nwS j i c (rows.take k)).map rowD ++ ((List.range m).map (nwR j i c row)).map rowD, ⟨rfl, by simp⟩, fun m d acc M' hm hjm' => ?_, fun acc M' hjm' => ?_⟩
            · obtain ⟨rfl, rfl⟩ := hjm'
              obtain ⟨hml, rfl⟩ := rngD_get hm
              walk_at "go"
              refine cm0 ⟨row, (lowI (i : Int) j).toNat, (lowI (i : Int) j + 2 ^ j).toNat, c, m, by rw [← ec0, ← ec1, Int.zero_add]; rfl, rfl, by omega, by omega, ?_⟩
              refine ⟨?_, rfl, ?_⟩
              · have hc5 : c ≤ 5 := by have := t0 i; omega
                rw [List.length_append, List.length_map, List.length_map, List.length_map, List.length_range]; omega
              · rw [List.append_assoc, List.range_succ, List.map_append, List.map_append]; rfl
            · obtain ⟨rfl, rfl⟩ := hjm'
              refine ⟨rfl, ?_⟩
              rw [List.take_succ_eq_append_getElem hkl, ek3, rngD_length]
              unfold nwS
              rw [List.flatMap_append, List.map_append, show (c + 1).toNat = c.toNat + 1 by omega]
              simp
        · obtain ⟨rfl, rfl⟩ := hjk
          walk_at "go"
          refine ⟨rfl, _, _, _, _, _, _, rfl, ?_, ?_, ?_⟩
          · rw [List.length_map, List.take_length, ← he, e2]; rfl
          · rw [List.length_map, List.take_length]; exact nwS_rows hr
          · rw [List.length_map, List.take_length]; exact bnd
    · obtain ⟨rfl, rows, x6, x7, x8, x9, x10, rfl, he, hr, hrl⟩ := hj'
      rw [enumD_length, List.length_map] at he hrl
      rw [List.drop_length] at he
      rw [List.take_length] at hrl
      have he' : rows = rowsP j 0 cs [List.replicate (2 ^ (S.length + 1)) 0] := he
      have h32 : rows.length ≤ 32 := Nat.le_trans hrl (by
        have : cs.sum.toNat ≤ 5 := by omega
        exact Nat.pow_le_pow_right (by decide) this)
      walk_at "go"
      refine LcA.pure (rows.map fun row => (shItem vs row).1) (by simp) (fun i d hd => ?_) ?_
      · rw [List.getElem?_map] at hd
        cases hq : rows[i]? with
        | none => rw [hq] at hd; cases hd
        | some row =>
          rw [hq] at hd; cases hd
          walk_at "go"
          exact lc_post (by simp; omega) (by rw [List.getElem?_map, hq]; rfl)
      · walk_at "go"
        refine SortPMA.mk (ps := rows.map fun row => (shItem vs row).2) .fr ?_ ?_ ?_ ?_ fun q hq => ?_
        · exact py_items18 vs rows
        · intro p hp
          obtain ⟨row, _, rfl⟩ := List.mem_map.mp hp
          simp [shItem, PyData.depth, PyData.depthAll, PySem.W.depth_ints]
        · exact PySem.W.AllAlike.of fun p q => by simp [shItem, PySem.W.alike, PySem.W.alikeAll, PySem.W.alike_ints]
        · exact PySem.W.Sortable.tuples fun row => ⟨_, _, rfl⟩
        · have ez : (rows.map fun row => (shItem vs row).1).zip (rows.map fun row => (shItem vs row).2) = rows.map (shItem vs) := by
            rw [List.zip_map']
          rw [ez, he']
          walk_at "go"
          exact ⟨_, Less.refl, hp q⟩
  · walk_at "go"
    exact ⟨_, Less.refl, bad no⟩
theorem ints_shape19 : ∀ n : Nat, SeqAt.shaped (.list (List.replicate n (.int 1))) = true := by
  have h1 : ∀ n : Nat, PyData.canLayAll0 (List.replicate n (PyData.int 1)) = true := by
    intro n; induction n with
    | zero => rfl
    | succ n ih => simp [List.replicate_succ, PyData.canLayAll0, PyData.canLay0, ih]
  have h2 : ∀ n : Nat, PyData.depthAll (List.replicate n (PyData.int 1)) = 0 := by
    intro n; induction n with
    | zero => rfl
    | succ n ih => simp [List.replicate_succ, PyData.depthAll, PyData.depth, ih]
  intro n
  unfold SeqAt.shaped
  simp [PyData.canLay0, PyData.depth, h1, h2]
theorem ints_py19 : ∀ n : Nat, Paired IsPy (List.replicate n (D.int 1)) (List.replicate n (PyData.int 1))
  | 0 => .nil
  | n + 1 => .cons (.int 1) (ints_py19 n)
theorem fil_ones19 (G : List Str) (p : Str → Bool) : (G.filterMap fun g => if p g = true then none else some (D.int 1)) = List.replicate ((G.filter fun g => !p g).length) (D.int 1) := by
  induction G with
  | nil => rfl
  | cons g r ih =>
    rw [List.filterMap_cons, List.filter_cons]
    cases h : p g with
    | true => simp [ih]
    | false => simp [ih, List.replicate_succ]
theorem eqv_ones19 (n : Nat) : PyData.eqv (.list (List.replicate n (.int 1))) (.list []) = decide (n = 0) := by
  cases n with
  | zero => rfl
  | succ n => rfl
theorem fil_all19 (G : List Str) (p : Str → Bool) : decide ((G.filter fun g => !p g).length = 0) = G.all p := by
  rw [Bool.eq_iff_iff]
  simp [List.filter_eq_nil_iff]
def nwL (a b : Nat) (c : Int) (i : Nat) (row : List Int) : List Int := (row.set a (c - (i : Int))).set b (i : Int)
theorem py_rows19 : ∀ rows : List (List Int), Paired IsPy (rows.map isD) (rows.map fun row => (rwItem row).2)
  | [] => .nil
  | row :: r => .cons (.tup (py_ints18 row)) (py_rows19 r)
theorem atI_nat19 {α : Type} {l : List α} {i : Nat} {x : α} (h : l[i]? = some x) : atI l (i : Int) = some x := by
  have hi := (List.getElem?_eq_some_iff.mp h).1
  unfold atI
  have : ixN l.length (i : Int) = some i := by
    unfold ixN
    rw [if_pos (by omega)]
    simp [hi]
  rw [this]; exact h
theorem ixN_nat19 {k h : Nat} (hl : h < k) : ixN k (h : Int) = some h := by
  unfold ixN
  rw [if_pos (by omega)]
  simp [hl]
theorem fl_len19 {α β : Type} (f : Nat → α → β) (rows : List α) (k : Nat) : ((List.range k).flatMap fun m => rows.map (f m)).length = k * rows.length := by
  induction k with
  | zero => simp
  | succ k ih => rw [List.range_succ, List.flatMap_append, List.length_append, ih, Nat.succ_mul]; simp
theorem vc_l_shares (a : Ad) : ∀ ds M P EX, sp_l_shares a ds M P EX → t_l_shares a (startA N_l_shares ds) M (retK P EX) := by
  intro ds M P EX ⟨G, s, cs, hd, hM, hG, hsl, hg2, hcl, hc0, hcs, hsp, hp⟩
  subst hd hM
  unfold t_l_shares
  show (aSeq _ _) [some (.tup (G.map D.str)), some (.tup (cs.map D.int)), some (.str s), none, none, none, none, none, none, none, none, none, none] _ _
  walk_at "go"
  refine AddA.tup (l := G.map D.str) (r := [D.str s]) (by simp; omega) ?_
  rw [show G.map D.str ++ [D.str s] = (G ++ [s]).map D.str by simp]
  walk_at "go"
  refine SortedTA.txts (by simp; omega) fun ys q1 q2 => ?_
  have e := srt_unique q1 q2
  subst e
  walk_at "go"
  refine TupleNA.lst .fr ?_
  walk_at "go"
  intro q4 hq4
  have n4 : cs.length ≤ 4 := by
    rw [hcl]
    have := Nat.pow_le_pow_right (n := 2) (by decide) hg2
    omega
  have n1 : 0 < cs.length := by rw [hcl]; exact Nat.pow_pos (by decide)
  generalize hW : srtS (G ++ [s]) = W at *
  walk_at "go"
  simp only [List.length_map]
  walk_at "go"
  refine ⟨fun i ρ' M' => ∃ (x5 x7 x8 : Option D), ρ' = [some (.tup (G.map D.str)), some (.tup (cs.map D.int)), some (.str s), some (.tpn (W.map D.str)), some (.ref q4), x5, none, x7, x8, none, none, none, none] ∧
    M' = [(q4, .lst ((List.range i).map fun r => .lst ((spotsL G W (2 * cs.length) r).map fun (o : Nat) => D.int (o : Int))))], ⟨none, none, none, rfl, rfl⟩, fun i d ρ' M' hx hj => ?_, fun ρ' M' hj => ?_⟩
  · obtain ⟨x5, x7, x8, rfl, rfl⟩ := hj
    obtain ⟨hi, rfl⟩ := rngD_get hx
    walk_at "go"
    intro q7 hq7
    walk_at "go"
    simp only [List.length_map]
    have hi4 : i < cs.length := by simpa using hi
    walk_at "go"
    refine ⟨fun k ρ' M' => ∃ (x8 : Option D), ρ' = [some (.tup (G.map D.str)), some (.tup (cs.map D.int)), some (.str s), some (.tpn (W.map D.str)), some (.ref q4), some (.int (0 + i)), none, some (.ref q7), x8, none, none, none, none] ∧
      M' = [(q4, .lst ((List.range i).map fun r => .lst ((spotsL G W (2 * cs.length) r).map fun (o : Nat) => D.int (o : Int)))), (q7, .lst (((List.range k).filter fun (o : Nat) => G.all fun g => lieB W (o : Int) g == lieB G (i : Int) g).map fun (o : Nat) => D.int (o : Int)))], ⟨x8, rfl, rfl⟩, fun k d ρ' M' hx hj => ?_, fun ρ' M' hj => ?_⟩
    · obtain ⟨x8, rfl, rfl⟩ := hj
      obtain ⟨hk, rfl⟩ := rngD_get hx
      walk_at "go"
      refine LcA.fil (fun m => (G[m]?).bind fun g => if (lieB W (k : Int) g == lieB G (i : Int) g) = true then none else some (D.int 1)) (fun m d hd => ?_) ?_
      · rw [List.getElem?_map] at hd
        cases hq : G[m]? with
        | none => rw [hq] at hd; cases hd
        | some g =>
          rw [hq] at hd; cases hd
          have hm := (List.getElem?_eq_some_iff.mp hq).1
          walk_at "go"
          refine cm0 ⟨W, 0 + k, g, rfl, rfl, ?_⟩
          walk_at "go"
          refine cm0 ⟨G, 0 + i, g, rfl, rfl, ?_⟩
          walk_at "go"
          rw [Int.zero_add, Int.zero_add]
          refine ite_r (fun h => ?_) (fun h => ?_)
          · walk_at "go"
            refine fil_yes (by omega) ?_
            have e : (lieB W (k : Int) g == lieB G (i : Int) g) = false := by simpa using h
            rw [hq]
            show (if _ then _ else _) = _
            rw [e]; rfl
          · refine fil_no ?_
            have e : (lieB W (k : Int) g == lieB G (i : Int) g) = true := by simpa using h
            rw [hq]
            show (if _ then _ else _) = _
            rw [e]; rfl
      · rw [List.length_map, fil_all, fil_ones19 G fun g => lieB W (k : Int) g == lieB G (i : Int) g]
        walk_at "go"
        refine EqA.py (p := .list (List.replicate _ (.int 1))) (q := .list []) (.lst (ints_py19 _)) (.lst .nil) (ints_shape19 _) rfl ?_
        rw [eqv_ones19, fil_all19]
        walk_at "go"
        refine ite_r (fun h => ?_) (fun h => ?_)
        · walk_at "go"
          refine ⟨.mlst (l := ((List.range k).filter fun (o : Nat) => G.all fun g => lieB W (o : Int) g == lieB G (i : Int) g).map fun (o : Nat) => D.int (o : Int)) (by simp), ?_⟩
          walk_at "go"
          refine AppA.mk (.there .here) (by
            rw [List.length_map]
            have := List.length_filter_le (fun (o : Nat) => G.all fun g => lieB W (o : Int) g == lieB G (i : Int) g) (List.range k)
            simp at this hk; omega) ?_
          walk_at "go"
          refine ⟨_, rfl, ?_⟩
          rw [List.range_succ, List.filter_append, List.filter_cons, if_pos h, Int.zero_add, List.map_append]; rfl
        · refine ⟨_, rfl, ?_⟩
          rw [List.range_succ, List.filter_append, List.filter_cons, if_neg (by rw [h]; decide)]
          simp
    · obtain ⟨x8, rfl, rfl⟩ := hj
      rw [rngD_length, show (2 * (cs.length : Int)).toNat = 2 * cs.length by omega]
      walk_at "go"
      refine ⟨.mlst (l := (List.range i).map fun r => .lst ((spotsL G W (2 * cs.length) r).map fun (o : Nat) => D.int (o : Int))) (by simp), ?_⟩
      walk_at "go"
      refine AppA.mk .here (by simp; omega) ?_
      walk_at "go"
      refine ⟨_, _, _, rfl, ?_⟩
      rw [List.range_succ, List.map_append]; rfl
  · obtain ⟨x5, x7, x8, rfl, rfl⟩ := hj
    rw [rngD_length, show ((cs.length : Int)).toNat = cs.length by omega]
    walk_at "go"
    simp only [List.length_map]
    walk_at "go"
    refine LcA.pure ((List.replicate (2 * cs.length) (0 : Int)).map D.int) (by simp [rngD]; omega) (fun k d hd => ?_) ?_
    · obtain ⟨hk, rfl⟩ := rngD_get hd
      walk_at "go"
      exact lc_post (by simp; omega) (by rw [List.getElem?_map, List.getElem?_replicate, if_pos (by omega)]; rfl)
    walk_at "go"
    refine ⟨fun i ρ' M' => M' = [] ∧ ∃ (rows : List (List Int)) (x5 x7 x8 x9 x10 x11 x12 : Option D), ρ' = [some (.tup (G.map D.str)), some (.tup (cs.map D.int)), some (.str s), some (.tpn (W.map D.str)), some (.ref q4), x5, some (.lst (rows.map rowD)), x7, x8, x9, x10, x11, x12] ∧
      rowsL G W (2 * cs.length) i (cs.drop i) rows = rowsL G W (2 * cs.length) 0 cs [List.replicate (2 * cs.length) 0] ∧ (∀ row ∈ rows, row.length = 2 * cs.length) ∧ rows.length ≤ 2 ^ ((cs.take i).sum.toNat), ⟨rfl, [List.replicate (2 * cs.length) 0], x5, x7, x8, none, none, none, none, rfl, rfl, fun row hr => by rw [List.mem_singleton.mp hr]; simp, by simp⟩, fun i d ρ' M' hx' hj' => ?_, fun ρ' M' hj' => ?_⟩
    · obtain ⟨rfl, rows, x5, x7, x8, x9, x10, x11, x12, rfl, he, hr, hrl⟩ := hj'
      obtain ⟨y, hy, rfl⟩ := enumD_get hx'
      rw [List.getElem?_map] at hy
      cases hq : (List.range cs.length)[i]? with
      | none => rw [hq] at hy; cases hy
      | some i' =>
        rw [hq] at hy; cases hy
        obtain ⟨hl', e3'⟩ := List.getElem?_eq_some_iff.mp hq
        rw [List.getElem_range] at e3'
        subst e3'
        have hl : i < cs.length := by simpa using hl'
        obtain ⟨c, e3⟩ : ∃ c, cs[i] = c := ⟨_, rfl⟩
        have e2 : cs.drop i = c :: cs.drop (i + 1) := by rw [List.drop_eq_getElem_cons hl, e3]
        have hcm : c ∈ cs := by rw [← e3]; exact List.getElem_mem hl
        have hc := hc0 c hcm
        have tk : (cs.take (i + 1)).sum = (cs.take i).sum + c := by
          rw [List.take_succ_eq_append_getElem hl, List.sum_append, e3]; simp
        have pos : ∀ l : List Int, (∀ c ∈ l, 0 ≤ c) → 0 ≤ l.sum := fun l => by
          induction l with
          | nil => intro _; decide
          | cons x r ih =>
            intro h
            have := ih fun c hc => h c (List.mem_cons_of_mem _ hc)
            have := h x List.mem_cons_self
            rw [List.sum_cons]; omega
        have t0 : ∀ k : Nat, 0 ≤ (cs.take k).sum := fun k => pos _ fun c hc => hc0 c (List.mem_of_mem_take hc)
        have t5 : (cs.take (i + 1)).sum ≤ cs.sum := by
          have h1 : (cs.take (i + 1)).sum + (cs.drop (i + 1)).sum = cs.sum := by rw [← List.sum_append, List.take_append_drop]
          have := pos (cs.drop (i + 1)) fun c hc => hc0 c (List.mem_of_mem_drop hc)
          omega
        have tn : (cs.take (i + 1)).sum.toNat = (cs.take i).sum.toNat + c.toNat := by have := t0 i; omega
        have hc5 : c ≤ 5 := by have := t0 i; omega
        have hsl2 := hsp i hl
        obtain ⟨a0, a1, rest, hspots⟩ : ∃ a0 a1 rest, spotsL G W (2 * cs.length) i = a0 :: a1 :: rest := by
          cases h : spotsL G W (2 * cs.length) i with
          | nil => rw [h] at hsl2; simp at hsl2
          | cons a0 r =>
            cases r with
            | nil => rw [h] at hsl2; simp at hsl2
            | cons a1 r => exact ⟨_, _, _, rfl⟩
        have hb : ∀ o ∈ spotsL G W (2 * cs.length) i, o < 2 * cs.length := fun o ho => by
          have := (List.mem_filter.mp ho).1
          simpa using this
        have hb0 : a0 < 2 * cs.length := hb a0 (by rw [hspots]; simp)
        have hb1 : a1 < 2 * cs.length := hb a1 (by rw [hspots]; simp)
        have r32 : rows.length ≤ 32 := Nat.le_trans hrl (by
          have : (cs.take i).sum.toNat ≤ 5 := by omega
          exact Nat.pow_le_pow_right (by decide) this)
        dsimp only
        rw [hspots]
        walk_at "go"
        intro q9 hq9
        walk_at "go"
        refine IxA.seq (l := cs.map D.int) .tup (atI_nat19 (x := D.int c) (by rw [List.getElem?_map, List.getElem?_eq_getElem hl, e3]; rfl)) ?_
        walk_at "go"
        refine ⟨fun k ρ' M' => ∃ (x8 x10 x11 x12 : Option D), ρ' = [some (.tup (G.map D.str)), some (.tup (cs.map D.int)), some (.str s), some (.tpn (W.map D.str)), some (.ref q4), some (.int i), some (.lst (rows.map rowD)), some (.lst ((a0 :: a1 :: rest).map fun (o : Nat) => D.int (o : Int))), x8, some (.ref q9), x10, x11, x12] ∧
          M' = [(q9, .lst (((List.range k).flatMap fun m => rows.map (nwL a0 a1 c m)).map rowD))], ⟨_, _, _, _, rfl, rfl⟩, fun k d ρ' M' hx hj => ?_, fun ρ' M' hj => ?_⟩
        · obtain ⟨x8, x10, x11, x12, rfl, rfl⟩ := hj
          obtain ⟨hk, rfl⟩ := rngD_get hx
          walk_at "go"
          refine ⟨fun m ρ' M' => ∃ (x8 x11 x12 : Option D), ρ' = [some (.tup (G.map D.str)), some (.tup (cs.map D.int)), some (.str s), some (.tpn (W.map D.str)), some (.ref q4), some (.int i), some (.lst (rows.map rowD)), some (.lst ((a0 :: a1 :: rest).map fun (o : Nat) => D.int (o : Int))), x8, some (.ref q9), some (.int (0 + k)), x11, x12] ∧
            M' = [(q9, .lst (((List.range k).flatMap (fun m => rows.map (nwL a0 a1 c m)) ++ (rows.take m).map (nwL a0 a1 c k)).map rowD))], ⟨_, _, _, rfl, by simp⟩, fun m d ρ' M' hx hj => ?_, fun ρ' M' hj => ?_⟩
          · obtain ⟨x8, x11, x12, rfl, rfl⟩ := hj
            rw [List.getElem?_map] at hx
            cases hqm : rows[m]? with
            | none => rw [hqm] at hx; cases hx
            | some row =>
              rw [hqm] at hx; cases hx
              obtain ⟨hml, em⟩ := List.getElem?_eq_some_iff.mp hqm
              have hrow := hr row (List.mem_of_getElem? hqm)
              walk_at "go"
              refine ListMA.seq .fr fun q8 hq8 => ?_
              walk_at "go"
              refine IxA.seq (l := cs.map D.int) .tup (atI_nat19 (x := D.int c) (by rw [List.getElem?_map, List.getElem?_eq_getElem hl, e3]; rfl)) ?_
              walk_at "go"
              refine IxA.seq .fr (atI_nat19 (i := 0) (x := D.int (a0 : Int)) rfl) ?_
              walk_at "go"
              refine setL_r (.there .here) (ixN_nat19 (h := a0) (by simp; omega)) rfl ?_
              walk_at "go"
              refine IxA.seq .fr (atI_nat19 (i := 1) (x := D.int (a1 : Int)) rfl) ?_
              walk_at "go"
              refine setL_r (.there .here) (ixN_nat19 (h := a1) (by simp; omega)) rfl ?_
              walk_at "go"
              refine ⟨.mlst (l := ((List.range k).flatMap (fun m => rows.map (nwL a0 a1 c m)) ++ (rows.take m).map (nwL a0 a1 c k)).map rowD) (by simp), ?_⟩
              walk_at "go"
              refine AppA.mk .here (by
                rw [List.length_map, List.length_append, List.length_map, fl_len19, List.length_take]
                have : k * rows.length ≤ 6 * 32 := Nat.mul_le_mul (by omega) r32
                omega) ?_
              walk_at "go"
              refine ⟨_, _, _, rfl, ?_⟩
              rw [List.take_succ_eq_append_getElem hml, em, List.map_append (l₁ := rows.take m), ← List.append_assoc, List.map_append (l₂ := List.map (nwL a0 a1 c k) [row])]
              simp [nwL, rowD, List.map_set]
          · obtain ⟨x8, x11, x12, rfl, rfl⟩ := hj
            walk_at "go"
            refine ⟨_, _, _, _, rfl, ?_⟩
            rw [List.length_map, List.take_length, List.range_succ, List.flatMap_append]
            simp
        · obtain ⟨x8, x10, x11, x12, rfl, rfl⟩ := hj
          walk_at "go"
          refine ⟨rfl, _, _, _, _, _, _, _, _, rfl, ?_, ?_, ?_⟩
          · rw [← he, e2, rngD_length]
            show _ = rowsL G W (2 * cs.length) (i + 1) (cs.drop (i + 1)) ((List.range (c.toNat + 1)).flatMap fun (m : Nat) => rows.map fun row => (row.set ((spotsL G W (2 * cs.length) i).getD 0 0) (c - (m : Int))).set ((spotsL G W (2 * cs.length) i).getD 1 0) (m : Int))
            rw [hspots, show (c + 1).toNat = c.toNat + 1 by omega]
            rfl
          · intro row hrow
            obtain ⟨m, _, h2⟩ := List.mem_flatMap.mp hrow
            obtain ⟨row0, h0, rfl⟩ := List.mem_map.mp h2
            simp [nwL, hr row0 h0]
          · rw [fl_len19, rngD_length, tn, Nat.pow_add, Nat.mul_comm]
            refine Nat.mul_le_mul hrl ?_
            rw [show (c + 1).toNat = c.toNat + 1 by omega]
            exact two_pow_ge _
    · obtain ⟨rfl, rows, x5, x7, x8, x9, x10, x11, x12, rfl, he, hr, hrl⟩ := hj'
      rw [enumD_length, List.length_map, List.length_range] at he hrl
      rw [List.drop_length] at he
      rw [List.take_length] at hrl
      have he' : rows = rowsL G W (2 * cs.length) 0 cs [List.replicate (2 * cs.length) 0] := he
      have h32 : rows.length ≤ 32 := Nat.le_trans hrl (by
        have : cs.sum.toNat ≤ 5 := by omega
        exact Nat.pow_le_pow_right (by decide) this)
      walk_at "go"
      refine LcA.pure (rows.map isD) (by simp) (fun i d hd => ?_) ?_
      · rw [List.getElem?_map] at hd
        cases hq : rows[i]? with
        | none => rw [hq] at hd; cases hd
        | some row =>
          rw [hq] at hd; cases hd
          walk_at "go"
          exact lc_post (by simp; omega) (by rw [List.getElem?_map, hq]; rfl)
      · walk_at "go"
        refine SortPA.mk (ps := rows.map fun row => (rwItem row).2) .fr ?_ ?_ ?_ ?_ ?_
        · exact py_rows19 rows
        · intro p hp
          obtain ⟨row, _, rfl⟩ := List.mem_map.mp hp
          simp [rwItem, PyData.depth, PySem.W.depth_ints]
        · exact PySem.W.AllAlike.of fun p q => by simp [rwItem, PySem.W.alike, PySem.W.alike_ints]
        · refine .inl fun d hd => ?_
          obtain ⟨row, hrow, rfl⟩ := List.mem_map.mp hd
          have := hr row hrow
          cases row with
          | nil => simp at this; omega
          | cons x r => exact ⟨_, _, rfl⟩
        · have ez : (rows.map isD).zip (rows.map fun row => (rwItem row).2) = rows.map rwItem := by
            rw [List.zip_map']; rfl
          rw [ez, he']
          subst hW
          walk_at "go"
          exact hp
/-! the plain law -/
theorem iLe_trans (a b c : List Int) (h1 : decide (a ≤ b) = true) (h2 : decide (b ≤ c) = true) : decide (a ≤ c) = true := by
  simp only [decide_eq_true_eq] at *
  exact List.le_trans h1 h2
theorem iLe_total (a b : List Int) : (decide (a ≤ b) || decide (b ≤ a)) = true := by
  simp only [Bool.or_eq_true, decide_eq_true_eq]
  exact List.le_total a b
def sR (rows : List (List Int)) : List (List Int) := rows.mergeSort fun p q => decide (p ≤ q)
theorem sR_perm (l : List (List Int)) : (sR l).Perm l := List.mergeSort_perm _ _
theorem sR_pw (l : List (List Int)) : (sR l).Pairwise (fun a b => decide (a ≤ b) = true) := List.pairwise_mergeSort iLe_trans iLe_total l
theorem sR_eq {l l' : List (List Int)} (h : l.Perm l') : sR l = sR l' :=
  List.Perm.eq_of_pairwise (fun a b _ _ h1 h2 => List.le_antisymm (of_decide_eq_true h1) (of_decide_eq_true h2)) (sR_pw l) (sR_pw l') ((sR_perm l).trans (h.trans (sR_perm l').symm))
theorem lt_rowT (p q : List Int) : PySem.W.dataLt (.tuple (p.map .int)) (.tuple (q.map .int)) = decide (p < q) := by
  rw [PySem.W.dataLt_tuple]
  exact PySem.W.dataLt_ints p q
theorem eqv_row : ∀ p q : List Int, PyData.eqvAll (p.map .int) (q.map .int) = decide (p = q)
  | [], [] => rfl
  | [], _ :: _ => rfl
  | _ :: _, [] => rfl
  | a :: p, b :: q => by
    show (PyData.eqv (.int a) (.int b) && PyData.eqvAll (p.map .int) (q.map .int)) = _
    rw [eqv_row p q]
    have : PyData.eqv (.int a) (.int b) = decide (a = b) := by rw [Bool.eq_iff_iff]; simp [PyData.eqv]
    rw [this]
    by_cases h : a = b <;> by_cases h2 : p = q <;> simp [h, h2]
theorem eqv_rowT (p q : List Int) : PyData.eqv (.tuple (p.map .int)) (.tuple (q.map .int)) = decide (p = q) := by
  rw [show PyData.eqv (.tuple (p.map .int)) (.tuple (q.map .int)) = PyData.eqvAll (p.map .int) (q.map .int) by simp [PyData.eqv]]
  exact eqv_row p q
theorem alike_rowT (p q : List Int) : PySem.W.alike (.tuple (p.map .int)) (.tuple (q.map .int)) = true := by
  rw [show PySem.W.alike (.tuple (p.map .int)) (.tuple (q.map .int)) = PySem.W.alikeAll (p.map .int) (q.map .int) by simp [PySem.W.alike]]
  exact PySem.W.alike_ints p q
theorem lt_pair (vs p q : List Int) : PySem.W.dataLt (.tuple [.tuple (p.map .int), .tuple (vs.map .int)]) (.tuple [.tuple (q.map .int), .tuple (vs.map .int)]) = decide (p < q) := by
  rw [PySem.W.dataLt_pair (alike_rowT p q) (alike_rowT vs vs), eqv_rowT, eqv_rowT, lt_rowT p q]
  by_cases h : p = q
  · subst h; simp [List.lt_irrefl]
  · simp [h]
theorem shD_eq (n j : Nat) (cs vs : List Int) : shD n j cs vs = (sR (rowsP j 0 cs [List.replicate n 0])).map fun row => D.tup [isD row, isD vs] := by
  unfold shD sortD sR
  rw [← List.map_mergeSort (r := fun p q => decide (p ≤ q)) (f := shItem vs), List.map_map]
  · rfl
  · intro a _ b _
    show decide (a ≤ b) = !(PySem.W.dataLt (shItem vs b).2 (shItem vs a).2)
    unfold shItem
    rw [lt_pair]
    by_cases h : b < a
    · simp [h, List.not_le.mpr h]
    · simp [h, List.not_lt.mp h]
theorem lawD_eq (G : List Str) (s : Str) (cs : List Int) : lawD G s cs = (sR (rowsL G (srtS (G ++ [s])) (2 * cs.length) 0 cs [List.replicate (2 * cs.length) 0])).map isD := by
  unfold lawD sortD sR
  rw [← List.map_mergeSort (r := fun p q => decide (p ≤ q)) (f := rwItem), List.map_map]
  · rfl
  · intro a _ b _
    show decide (a ≤ b) = !(PySem.W.dataLt (rwItem b).2 (rwItem a).2)
    unfold rwItem
    rw [lt_rowT]
    by_cases h : b < a
    · simp [h, List.not_le.mpr h]
    · simp [h, List.not_lt.mp h]
/-! where a new name comes -/
theorem inc_pw : ∀ l : List Str, incB l = true → l.Pairwise (fun a b => ltS a b = true)
  | [], _ => .nil
  | [_], _ => List.pairwise_singleton _ _
  | a :: b :: r, h => by
    have h' : (ltS a b && incB (b :: r)) = true := h
    rw [Bool.and_eq_true] at h'
    have ih := inc_pw (b :: r) h'.2
    refine List.pairwise_cons.mpr ⟨fun y hy => ?_, ih⟩
    rcases List.mem_cons.mp hy with rfl | hy
    · exact h'.1
    · have h2 := (List.pairwise_cons.mp ih).1 y hy
      have h1 := h'.1
      simp only [ltS, decide_eq_true_eq] at *
      exact List.lt_trans h1 h2
theorem pw_incP : ∀ l : List Str, l.Pairwise (fun a b => ltS a b = true) → incB l = true
  | [], _ => rfl
  | [_], _ => rfl
  | a :: b :: r, h => by
    show (ltS a b && incB (b :: r)) = true
    rw [(List.pairwise_cons.mp h).1 b List.mem_cons_self, pw_incP (b :: r) (List.pairwise_cons.mp h).2]
    rfl
theorem ltS_irrefl (a : Str) : ltS a a = false := by simp [ltS, List.lt_irrefl]
theorem ltS_ne {a b : Str} (h : ltS a b = true) : a ≠ b := fun e => by rw [e, ltS_irrefl] at h; cases h
theorem ltS_or {a b : Str} (h : a ≠ b) (h2 : ltS a b = false) : ltS b a = true := by
  simp only [ltS, decide_eq_true_eq, decide_eq_false_iff_not] at *
  apply Classical.byContradiction
  intro q
  exact h (str_ext (List.le_antisymm (List.not_lt.mp q) (List.not_lt.mp h2)))
theorem srt_inc {l : List Str} (nd : l.Nodup) : incB (srtS l) = true := by
  refine pw_incP _ ?_
  have nd' : (srtS l).Nodup := (srt_perm l).nodup_iff.mpr nd
  have := (srt_pw l).and nd'
  refine this.imp fun {a b} ⟨h1, h2⟩ => ?_
  have h3 : ltS b a = false := by
    unfold leS at h1
    simpa using h1
  exact ltS_or (fun e => h2 e.symm) h3
theorem inc_srt {l : List Str} (h : incB (srtS l) = true) : l.Nodup := by
  have := (inc_pw _ h).imp (S := fun a b => a ≠ b) fun h => ltS_ne h
  exact (srt_perm l).nodup_iff.mp this
/-- a rising row with one more -/
theorem srt_ins {G : List Str} {s : Str} (hG : incB G = true) (hs : s ∉ G) : ∃ j : Nat, j ≤ G.length ∧ srtS (G ++ [s]) = G.take j ++ s :: G.drop j := by
  have pw := inc_pw G hG
  have key : ∃ j : Nat, j ≤ G.length ∧ (∀ x ∈ G.take j, ltS x s = true) ∧ ∀ x ∈ G.drop j, ltS s x = true := by
    clear hG
    induction G with
    | nil => exact ⟨0, Nat.le_refl _, fun x h => by simp at h, fun x h => by simp at h⟩
    | cons g r ih =>
      have hne : s ≠ g := fun e => hs (by rw [e]; exact List.mem_cons_self)
      have pw2 := List.pairwise_cons.mp pw
      cases q : ltS g s with
      | false =>
        have hsg : ltS s g = true := ltS_or (fun e => hne e.symm) q
        refine ⟨0, Nat.zero_le _, fun x h => by simp at h, fun x h => ?_⟩
        rcases List.mem_cons.mp h with rfl | h
        · exact hsg
        · have h2 := pw2.1 x h
          simp only [ltS, decide_eq_true_eq] at *
          exact List.lt_trans hsg h2
      | true =>
        obtain ⟨j, h1, h2, h3⟩ := ih (fun h => hs (List.mem_cons_of_mem _ h)) pw2.2
        refine ⟨j + 1, by simpa using h1, fun x h => ?_, fun x h => h3 x (by simpa using h)⟩
        rw [List.take_succ_cons] at h
        rcases List.mem_cons.mp h with rfl | h
        · exact q
        · exact h2 x h
  obtain ⟨j, hj, h1, h2⟩ := key
  refine ⟨j, hj, ?_⟩
  have lt_le : ∀ a b : Str, ltS a b = true → leS a b = true := fun a b h => by
    unfold leS
    cases q : ltS b a with
    | false => rfl
    | true =>
      simp only [ltS, decide_eq_true_eq] at *
      exact absurd (List.lt_trans h q) (List.lt_irrefl _)
  have pj : (G.take j ++ s :: G.drop j).Pairwise (fun a b => leS a b = true) := by
    have p1 : (G.take j ++ G.drop j).Pairwise (fun a b => ltS a b = true) := by rw [List.take_append_drop]; exact pw
    rw [List.pairwise_append] at p1 ⊢
    refine ⟨p1.1.imp fun h => lt_le _ _ h, List.pairwise_cons.mpr ⟨fun x hx => lt_le _ _ (h2 x hx), p1.2.1.imp fun h => lt_le _ _ h⟩, fun x hx y hy => ?_⟩
    rcases List.mem_cons.mp hy with rfl | hy
    · exact lt_le _ _ (h1 x hx)
    · exact lt_le _ _ (p1.2.2 x hx y hy)
  have pm : (G.take j ++ s :: G.drop j).Perm (G ++ [s]) := by
    refine List.perm_middle.trans ?_
    rw [List.take_append_drop]
    exact (List.perm_append_singleton s G).symm
  exact List.Perm.eq_of_pairwise (fun a b _ _ h1 h2 => leS_antisymm a b h1 h2) (srt_pw _) pj ((srt_perm _).trans pm.symm)
/-! a region's halves -/
def bitB (x : Int) (i : Nat) : Bool := decide ((x / 2 ^ i) % 2 = 1)
theorem lie_at : ∀ {G : List Str} {i : Nat} {g : Str} (b : Int), G.Nodup → G[i]? = some g → lieB G b g = bitB b i
  | [], i, g, b, _, h => by simp at h
  | o :: r, 0, g, b, nd, h => by
    simp at h; subst h
    show (if o = o then _ else _) = _
    rw [if_pos rfl]
    simp [bitB]
  | o :: r, i + 1, g, b, nd, h => by
    have h' : r[i]? = some g := by simpa using h
    have ne : o ≠ g := fun e => (List.nodup_cons.mp nd).1 (by rw [e]; exact List.mem_of_getElem? h')
    show (if o = g then _ else _) = _
    rw [if_neg ne, lie_at (b / 2) (List.nodup_cons.mp nd).2 h']
    unfold bitB
    have e : b / 2 / 2 ^ i = b / 2 ^ (i + 1) := by
      rw [Int.ediv_ediv_of_nonneg (by decide), Int.pow_succ, Int.mul_comm (2 ^ i) 2]
    rw [e]
theorem all_range (G : List Str) (p : Str → Bool) (q : Nat → Bool) (h : ∀ i g, G[i]? = some g → p g = q i) : G.all p = (List.range G.length).all q := by
  rw [Bool.eq_iff_iff, List.all_eq_true, List.all_eq_true]
  constructor
  · intro hp i hi
    have hi' := List.mem_range.mp hi
    rw [← h i G[i] (List.getElem?_eq_getElem hi')]
    exact hp _ (List.getElem_mem hi')
  · intro hq g hg
    obtain ⟨i, hi, e⟩ := List.getElem_of_mem hg
    rw [h i g (by rw [List.getElem?_eq_getElem hi, e])]
    exact hq i (List.mem_range.mpr hi)
def spN (n j r : Nat) : List Nat := (List.range (2 * 2 ^ n)).filter fun (o : Nat) => (List.range n).all fun i => bitB (o : Int) (if i < j then i else i + 1) == bitB (r : Int) i
theorem spN_dec : ∀ n : Nat, n < 3 → ∀ j : Nat, j < n + 1 → ∀ r : Nat, r < 2 ^ n → spN n j r = [(lowI (r : Int) j).toNat, (lowI (r : Int) j + 2 ^ j).toNat] := by decide +kernel
theorem ins_at {G : List Str} {s : Str} {j i : Nat} {g : Str} (hj : j ≤ G.length) (h : G[i]? = some g) : (G.take j ++ s :: G.drop j)[if i < j then i else i + 1]? = some g := by
  by_cases q : i < j
  · rw [if_pos q, List.getElem?_append_left (by rw [List.length_take]; omega), List.getElem?_take_of_lt q, h]
  · rw [if_neg q, List.getElem?_append_right (by rw [List.length_take]; omega), List.length_take, show i + 1 - min j G.length = (i - j) + 1 by omega, List.getElem?_cons_succ, List.getElem?_drop, show j + (i - j) = i by omega, h]
theorem spots_eq {G : List Str} {s : Str} {j r : Nat} (hG : G.Nodup) (hs : s ∉ G) (h2 : G.length ≤ 2) (hj : j ≤ G.length) (hW : srtS (G ++ [s]) = G.take j ++ s :: G.drop j) (hr : r < 2 ^ G.length) :
    spotsL G (srtS (G ++ [s])) (2 * 2 ^ G.length) r = [(lowI (r : Int) j).toNat, (lowI (r : Int) j + 2 ^ j).toNat] := by
  rw [← spN_dec G.length (by omega) j (by omega) r hr]
  unfold spotsL spN
  have nd : (srtS (G ++ [s])).Nodup := (srt_perm _).nodup_iff.mpr (List.nodup_append.mpr ⟨hG, by simp, fun a ha b hb e => hs (by rw [List.mem_singleton.mp hb] at e; rw [← e]; exact ha)⟩)
  congr 1
  funext o
  refine all_range G _ _ fun i g hg => ?_
  rw [lie_at (r : Int) hG hg, lie_at (o : Int) nd (by rw [hW]; exact ins_at hj hg)]
/-! the rows -/
theorem flat_cons_perm {α β : Type} (g : α → β) (h : α → List β) : ∀ l : List α, (l.flatMap fun b => g b :: h b).Perm (l.map g ++ l.flatMap h)
  | [] => .nil
  | b :: l => by
    rw [List.flatMap_cons, List.flatMap_cons, List.map_cons, List.cons_append, List.cons_append]
    refine List.Perm.cons _ ?_
    refine (List.Perm.append_left (h b) (flat_cons_perm g h l)).trans ?_
    rw [← List.append_assoc, ← List.append_assoc]
    exact List.Perm.append_right _ List.perm_append_comm
theorem flat_swap {α β γ : Type} (f : α → β → γ) (l : List β) : ∀ rows : List α, (rows.flatMap fun a => l.map (f a)).Perm (l.flatMap fun b => rows.map fun a => f a b)
  | [] => by simp
  | a :: rows => by
    rw [List.flatMap_cons]
    refine (List.Perm.append_left _ (flat_swap f l rows)).trans ?_
    simp only [List.map_cons]
    exact (flat_cons_perm (f a) (fun b => rows.map fun a => f a b) l).symm
theorem rows_perm {G W : List Str} {m j : Nat} : ∀ (cs : List Int) (r : Nat) (rows rows' : List (List Int)), (∀ r', r' < r + cs.length → spotsL G W m r' = [(lowI (r' : Int) j).toNat, (lowI (r' : Int) j + 2 ^ j).toNat]) → rows.Perm rows' → (rowsP j r cs rows).Perm (rowsL G W m r cs rows')
  | [], _, _, _, _, h => h
  | c :: cs, r, rows, rows', hs, h => by
    have e := hs r (by simp)
    refine rows_perm cs (r + 1) _ _ (fun r' hr => hs r' (by simp only [List.length_cons]; omega)) ?_
    rw [e]
    refine (List.Perm.flatMap_right _ h).trans ?_
    exact flat_swap (fun row (i : Nat) => (row.set (lowI r j).toNat (c - (i : Int))).set (lowI r j + 2 ^ j).toNat (i : Int)) (List.range (c.toNat + 1)) rows'
theorem sum_set_le : ∀ (l : List Int) (i : Nat) (x : Int), (∀ y ∈ l, 0 ≤ y) → 0 ≤ x → (l.set i x).sum ≤ l.sum + x
  | [], _, _, _, hx => by simpa using hx
  | a :: l, 0, x, h, hx => by
    have := h a List.mem_cons_self
    simp only [List.set_cons_zero, List.sum_cons]; omega
  | a :: l, i + 1, x, h, hx => by
    have := sum_set_le l i x (fun y hy => h y (List.mem_cons_of_mem _ hy)) hx
    simp only [List.set_cons_succ, List.sum_cons]; omega
structure RowOk (m : Nat) (B : Int) (row : List Int) : Prop where
  len : row.length = m
  pos : ∀ y ∈ row, 0 ≤ y
  sum : row.sum ≤ B
theorem set_pos {l : List Int} {i : Nat} {x : Int} (h : ∀ y ∈ l, 0 ≤ y) (hx : 0 ≤ x) : ∀ y ∈ l.set i x, 0 ≤ y := fun y hy => by
  rcases List.mem_or_eq_of_mem_set hy with z | z
  · exact h y z
  · rw [z]; exact hx
theorem rowsP_ok {m j : Nat} : ∀ (cs : List Int) (r : Nat) (rows : List (List Int)) (B : Int), (∀ c ∈ cs, 0 ≤ c) → (∀ row ∈ rows, RowOk m B row) → ∀ row ∈ rowsP j r cs rows, RowOk m (B + cs.sum) row
  | [], _, _, B, _, h, row, hr => by simpa using h row hr
  | c :: cs, r, rows, B, hc, h, row, hr => by
    have := rowsP_ok (m := m) cs (r + 1) _ (B + c) (fun c' h' => hc c' (List.mem_cons_of_mem _ h')) (fun row hrow => ?_) row hr
    · rw [List.sum_cons, ← Int.add_assoc]; exact this
    · obtain ⟨row0, h0, h1⟩ := List.mem_flatMap.mp hrow
      obtain ⟨i, hi, rfl⟩ := List.mem_map.mp h1
      have hi' := List.mem_range.mp hi
      have c0 := hc c List.mem_cons_self
      have k := h row0 h0
      have p1 := set_pos (i := (lowI r j).toNat) (x := c - (i : Int)) k.pos (by omega)
      refine ⟨by simp [k.len], set_pos p1 (by omega), ?_⟩
      have s1 := sum_set_le row0 (lowI r j).toNat (c - (i : Int)) k.pos (by omega)
      have s2 := sum_set_le _ (lowI r j + 2 ^ j).toNat (i : Int) p1 (by omega)
      have := k.sum
      omega
def prodC : List Int → Int
  | [] => 1
  | c :: cs => (c + 1) * prodC cs
theorem rowsP_len {j : Nat} : ∀ (cs : List Int) (r : Nat) (rows : List (List Int)), (∀ c ∈ cs, 0 ≤ c) → ((rowsP j r cs rows).length : Int) = rows.length * prodC cs
  | [], _, _, _ => by simp [rowsP, prodC]
  | c :: cs, r, rows, h => by
    have c0 := h c List.mem_cons_self
    rw [rowsP_cons, rowsP_len cs (r + 1) _ fun c' h' => h c' (List.mem_cons_of_mem _ h'), nwS_length]
    have e : ((rows.length * (c.toNat + 1) : Nat) : Int) = rows.length * (c + 1) := by
      push_cast
      rw [Int.toNat_of_nonneg c0]
    rw [e, prodC, Int.mul_assoc]
/-! what makes a wider talk -/
theorem wid_good {S N : List Str} {t : Int} (T : Tongue S N) (ht : 5 ≤ t) (s : Str) : widB S N t (.str s) = (namB s && (!decide (s ∈ S ++ N) && decide (S.length < 3))) := by
  obtain ⟨h1, h2, h3, h4, h5, h6, h7⟩ := T
  show (namB s && talkOk (srtS (S ++ [s])) N t) = _
  cases hn : namB s with
  | false => rfl
  | true =>
    rw [Bool.true_and, Bool.true_and]
    have aN : areB N 2 = true := by
      simp only [areB, Bool.and_eq_true, decide_eq_true_eq, List.all_eq_true]
      exact ⟨by omega, h4, h6⟩
    have t1 : decide (1 ≤ t) = true := by simp; omega
    unfold talkOk
    rw [aN, t1, Bool.and_true, Bool.and_true, Bool.eq_iff_iff]
    simp only [areB, Bool.and_eq_true, decide_eq_true_eq, List.all_eq_true, Bool.not_eq_true', List.any_eq_false, decide_eq_false_iff_not]
    have hl : (srtS (S ++ [s])).length = S.length + 1 := by rw [(srt_perm _).length_eq]; simp
    have hm : ∀ x, x ∈ srtS (S ++ [s]) ↔ x ∈ S ∨ x = s := fun x => by rw [(srt_perm _).mem_iff]; simp
    constructor
    · intro ⟨⟨q1, q2, q3⟩, q4⟩
      have nd := inc_srt q3
      refine ⟨fun hs => ?_, by omega⟩
      rcases List.mem_append.mp hs with z | z
      · exact (List.nodup_append.mp nd).2.2 s z s (by simp) rfl
      · exact q4 s z ((hm s).mpr (Or.inr rfl))
    · intro ⟨q1, q2⟩
      refine ⟨⟨by omega, fun x hx => ?_, srt_inc (List.nodup_append.mpr ⟨?_, by simp, fun a ha b hb e => q1 ?_⟩)⟩, fun x hx hx2 => ?_⟩
      · rcases (hm x).mp hx with z | z
        · exact h3 x z
        · rw [z]; exact hn
      · exact (inc_pw S h5).imp fun h => ltS_ne h
      · rw [List.mem_singleton.mp hb] at e; rw [← e]; exact List.mem_append_left _ ha
      · rcases (hm x).mp hx2 with z | z
        · exact h7 x hx z
        · exact q1 (by rw [← z]; exact List.mem_append_right _ hx)
/-- what the program tells is what the law tells -/
theorem sh_due {G : List Str} {s : Str} {cs vs : List Int} (hG : incB G = true) (hs : s ∉ G) (h2 : G.length ≤ 2) (hc : cs.length = 2 ^ G.length) :
    ∃ j : Nat, (srtS (G ++ [s]))[j]? = some s ∧ (∀ m, m < j → (srtS (G ++ [s]))[m]? ≠ some s) ∧ (∀ r, r < cs.length → 2 ≤ (spotsL G (srtS (G ++ [s])) (2 * cs.length) r).length) ∧
      (lawD G s cs).map (fun d => D.tup [d, isD vs]) = shD (2 ^ (G.length + 1)) j cs vs := by
  obtain ⟨j, hj, hW⟩ := srt_ins hG hs
  have nd : G.Nodup := (inc_pw G hG).imp fun h => ltS_ne h
  have sp : ∀ r, r < cs.length → spotsL G (srtS (G ++ [s])) (2 * cs.length) r = [(lowI (r : Int) j).toNat, (lowI (r : Int) j + 2 ^ j).toNat] := fun r hr => by
    rw [hc]; exact spots_eq nd hs h2 hj hW (by rw [← hc]; exact hr)
  refine ⟨j, ?_, fun m hm => ?_, fun r hr => by rw [sp r hr]; simp, ?_⟩
  · rw [hW, List.getElem?_append_right (by rw [List.length_take]; omega), List.length_take, show j - min j G.length = 0 by omega]; rfl
  · rw [hW, List.getElem?_append_left (by rw [List.length_take]; omega), List.getElem?_take_of_lt hm]
    intro e
    exact hs (List.mem_of_getElem? e)
  · rw [shD_eq, lawD_eq, List.map_map]
    have e2 : 2 * cs.length = 2 ^ (G.length + 1) := by rw [hc, Nat.pow_succ, Nat.mul_comm]
    have := rows_perm (G := G) (W := srtS (G ++ [s])) (m := 2 ^ (G.length + 1)) (j := j) cs 0 [List.replicate (2 ^ (G.length + 1)) 0] [List.replicate (2 ^ (G.length + 1)) 0] (fun r' hr => by rw [← e2]; exact sp r' (by omega)) (List.Perm.refl _)
    rw [e2, sR_eq this]
    rfl
def goodB (S N : List Str) : D → Bool
  | .str s => namB s && (!decide (s ∈ S ++ N) && decide (S.length < 3))
  | _ => false
theorem wid_goodD {S N : List Str} {t : Int} (T : Tongue S N) (ht : 5 ≤ t) (d : D) : widB S N t d = goodB S N d := by
  cases d with
  | str s => exact wid_good T ht s
  | _ => rfl
theorem nam_odd {s : Str} (h : namB s = true) : Odd (.str s) ∧ s.length ≤ 1000 := by
  simp only [namB, Bool.and_eq_true, decide_eq_true_eq, List.all_eq_true] at h
  refine ⟨⟨by omega, List.all_eq_true.mpr fun c hc => ?_⟩, by omega⟩
  have := h.2.2 c hc
  simp; omega
theorem nam_small {S : List Str} (h : ∀ s ∈ S, namB s = true) (hl : S.length ≤ 30) : Small S :=
  ⟨hl, fun s hs => ⟨(nam_odd (h s hs)).2, (nam_odd (h s hs)).1.2⟩⟩
theorem le_sum20 : ∀ l : List Int, (∀ c ∈ l, 0 ≤ c) → ∀ c ∈ l, c ≤ l.sum
  | [], _, c, h => by cases h
  | a :: l, h0, c, h => by
    have pos : 0 ≤ l.sum := by
      have h1 : ∀ c ∈ l, 0 ≤ c := fun c hc => h0 c (List.mem_cons_of_mem _ hc)
      clear h h0
      induction l with
      | nil => decide
      | cons x r ih => rw [List.sum_cons]; have := ih fun c hc => h1 c (List.mem_cons_of_mem _ hc); have := h1 x List.mem_cons_self; omega
    have a0 := h0 a List.mem_cons_self
    rw [List.sum_cons]
    rcases List.mem_cons.mp h with rfl | h
    · omega
    · have := le_sum20 l (fun c hc => h0 c (List.mem_cons_of_mem _ hc)) c h
      omega
theorem shw_ints {l : List Int} (h : ∀ c ∈ l, 0 ≤ c ∧ c ≤ 1000) : Shw 1 (l.length * 41) (.tuple (l.map PyData.int)) := by
  have := Shw.tup (k := 0) (w := 40) (ps := l.map PyData.int) fun p hp => by
    obtain ⟨c, hc, rfl⟩ := List.mem_map.mp hp
    have := h c hc
    exact Shw.int (by have e : (10 : Nat) ^ 12 = 1000000000000 := by decide
                      omega)
  rw [List.length_map] at this
  exact this
def wldP (cs vs : List Int) : PyData := .tuple [.tuple (cs.map PyData.int), .tuple (vs.map PyData.int)]
theorem wld_py (cs vs : List Int) : IsPy (.tup [isD cs, isD vs]) (wldP cs vs) := .tup (.cons (.tup (py_ints18 cs)) (.cons (.tup (py_ints18 vs)) .nil))
theorem shw_world {cs vs : List Int} (hc : cs.length ≤ 8) (hv : vs.length ≤ 2) (h1 : ∀ c ∈ cs, 0 ≤ c ∧ c ≤ 5) (h2 : ∀ v ∈ vs, 0 ≤ v ∧ v ≤ 1000) : Shw 2 1000 (wldP cs vs) := by
  have := Shw.tup (k := 1) (w := 328) (ps := [.tuple (cs.map PyData.int), .tuple (vs.map PyData.int)]) fun p hp => by
    simp only [List.mem_cons, List.not_mem_nil, or_false] at hp
    rcases hp with rfl | rfl
    · exact (shw_ints fun c hc => ⟨(h1 c hc).1, by have := (h1 c hc).2; omega⟩).mono (by omega) (by omega)
    · exact (shw_ints h2).mono (by omega) (by omega)
  exact this.mono (by omega) (by simp)
theorem prodC_pos : ∀ cs : List Int, (∀ c ∈ cs, 0 ≤ c) → 1 ≤ prodC cs
  | [], _ => by decide
  | c :: cs, h => by
    have ih := prodC_pos cs fun x hx => h x (List.mem_cons_of_mem _ hx)
    have c0 := h c List.mem_cons_self
    show 1 ≤ (c + 1) * prodC cs
    have : 1 * 1 ≤ (c + 1) * prodC cs := Int.mul_le_mul (by omega) ih (by omega) (by omega)
    omega
theorem prodC_le : ∀ cs : List Int, (∀ c ∈ cs, 0 ≤ c) → prodC cs ≤ 2 ^ cs.sum.toNat
  | [], _ => by decide
  | c :: cs, h => by
    have ih := prodC_le cs fun x hx => h x (List.mem_cons_of_mem _ hx)
    have p1 := prodC_pos cs fun x hx => h x (List.mem_cons_of_mem _ hx)
    have c0 := h c List.mem_cons_self
    have s0 : 0 ≤ cs.sum := by
      have h1 : ∀ c ∈ cs, 0 ≤ c := fun x hx => h x (List.mem_cons_of_mem _ hx)
      clear ih p1 h
      induction cs with
      | nil => decide
      | cons x r ih => rw [List.sum_cons]; have := ih fun c hc => h1 c (List.mem_cons_of_mem _ hc); have := h1 x List.mem_cons_self; omega
    show (c + 1) * prodC cs ≤ 2 ^ (c :: cs).sum.toNat
    rw [List.sum_cons, Int.toNat_add c0 s0, Int.pow_add]
    have t2 : c + 1 ≤ 2 ^ c.toNat := by
      have := two_pow_ge c.toNat
      have e : ((2 ^ c.toNat : Nat) : Int) = 2 ^ c.toNat := by push_cast; rfl
      omega
    exact Int.mul_le_mul t2 ih (by omega) (by have := Int.pow_pos (n := 2) (m := c.toNat) (by decide); omega)
theorem sort_sh (vs : List Int) (R : List (List Int)) : sortD (R.map (shItem vs)) = (sR R).map fun row => (shItem vs row).1 := by
  unfold sortD sR
  rw [← List.map_mergeSort (r := fun p q => decide (p ≤ q)) (f := shItem vs), List.map_map]
  · rfl
  · intro a _ b _
    show decide (a ≤ b) = !(PySem.W.dataLt (shItem vs b).2 (shItem vs a).2)
    unfold shItem
    rw [lt_pair]
    by_cases h : b < a
    · simp [h, List.not_le.mpr h]
    · simp [h, List.not_lt.mp h]
/-- any memory beside the pool -/
theorem vc_law (a : Ad) : ∀ ds M P EX, sp_law a ds M P EX → t_law a (startA N_law ds) M (retK P EX) := by
  intro ds M P EX ⟨ns, hd, hM, hp⟩
  subst hd hM
  unfold t_law
  show (aSeq _ _) [some (.lsk (ns.map D.int)), none, none, none, none, none, none, none, none, none, none, none, none, none, none, none, none, none, none] _ _
  walk_at "go"
  have hr : ∀ n : Nat, (-(2 ^ 62) : Int) ≤ (if (if (n : Int) < 8 then (n : Int) else 8) > 1 then (if (n : Int) < 8 then (n : Int) else 8) else 1) ∧ (if (if (n : Int) < 8 then (n : Int) else 8) > 1 then (if (n : Int) < 8 then (n : Int) else 8) else 1) < 2 ^ 62 ∧ (if (if (n : Int) < 8 then (n : Int) else 8) > 1 then (if (n : Int) < 8 then (n : Int) else 8) else 1) ≤ 8 := fun n => by
    split <;> split <;> omega
  have hr8 := (hr (ns.map D.int).length).2.2
  generalize (if (if ((ns.map D.int).length : Int) < 8 then ((ns.map D.int).length : Int) else 8) > 1 then (if ((ns.map D.int).length : Int) < 8 then ((ns.map D.int).length : Int) else 8) else 1) = top at hr8
  refine ⟨fun i ρ' M' => ∃ x1 x2 x3 x4 x5 x6 x7 x8 x9 x10 x11 x12 x13 x14 x15 x16 x17 x18 : Option D, ρ' = [some (.lsk (ns.map D.int)), x1, x2, x3, x4, x5, x6, x7, x8, x9, x10, x11, x12, x13, x14, x15, x16, x17, x18], ⟨_, _, _, _, _, _, _, _, _, _, _, _, _, _, _, _, _, _, rfl⟩, fun i d ρ' M' hx hj => ?_, fun ρ' M' hj => ?_⟩
  · obtain ⟨x1, x2, x3, x4, x5, x6, x7, x8, x9, x10, x11, x12, x13, x14, x15, x16, x17, x18, rfl⟩ := hj
    obtain ⟨hi, rfl⟩ := rngD_get hx
    walk_at "go"
    refine cm0 ⟨ns, 0 + i, rfl, rfl, by omega, by omega, fun p l hl => ?_⟩
    walk_at "go"
    refine cm1 ⟨p, l, 7919 * (0 + i) + 1, rfl, rfl, hl, by omega, fun S N l1 hT hl1 => ?_⟩
    unfold tonD
    walk_at "go"
    refine cm1 ⟨p, l1, 7919 * (0 + i) + 1 + 400, 16, rfl, rfl, hl1, by omega, by omega, by omega, fun r2 l2 r20 r21 hl2 => ?_⟩
    walk_at "go"
    obtain ⟨t, ht⟩ : ∃ t, t = 5 + r2 := ⟨_, rfl⟩
    rw [← ht]
    have hSs := nam_small hT.2.2.1 (by have := hT.1; omega)
    have hNs := nam_small hT.2.2.2.1 (by have := hT.2.1; omega)
    have tok : talkOk S N t = true := by
      obtain ⟨h1, h2, h3, h4, h5, h6, h7⟩ := hT
      have a1 : areB S 3 = true := by
        simp only [areB, Bool.and_eq_true, decide_eq_true_eq, List.all_eq_true]
        exact ⟨by omega, h3, h5⟩
      have a2 : areB N 2 = true := by
        simp only [areB, Bool.and_eq_true, decide_eq_true_eq, List.all_eq_true]
        exact ⟨by omega, h4, h6⟩
      have a3 : N.any (fun n => decide (n ∈ S)) = false := by
        rw [List.any_eq_false]
        intro n hn
        have := h7 n hn
        simpa using this
      have a4 : decide (1 ≤ t) = true := by simp; omega
      simp [talkOk, a1, a2, a3, a4]
    walk_at "go"
    intro x hx
    refine callM_one split_head ⟨x, .tup (S.map D.str), S, N, t, rfl, Or.inl rfl, rfl, ⟨by have := hSs.1; omega, hSs.2⟩, ⟨by have := hNs.1; omega, hNs.2⟩, fun _ => ?_, fun no => by rw [tok] at no; cases no⟩
    refine ⟨rfl, ?_⟩
    rw [if_neg (by simp)]
    refine ⟨_, _, split_head, ?_⟩
    walk_at "go"
    refine cm1 ⟨p, l2, 7919 * (0 + i) + 1 + 400 + 1, t, S, N, rfl, rfl, hl2, by omega, hT, by omega, by omega, fun cs vs l3 hcl hvl hc0 hcs hv0 hl3 => ?_⟩
    walk_at "go"
    have hcn : cs.length ≤ 8 := by rw [hcl]; exact Nat.pow_le_pow_right (n := 2) (by decide) hT.1
    have hvn : vs.length ≤ 2 := by rw [hvl]; exact hT.2.1
    have c5 : ∀ c ∈ cs, c ≤ 5 := fun c hc => Int.le_trans (le_sum20 cs hc0 c hc) hcs
    have wsh := shw_world hcn hvn (fun c hc => ⟨hc0 c hc, c5 c hc⟩) fun v hv => ⟨(hv0 v hv).1, by have := (hv0 v hv).2; omega⟩
    refine repr_r wsh (by decide) (by decide) (.fr (wld_py cs vs)) (Or.inl rfl) ?_
    walk_at "go"
    refine cm1 ⟨p, l3, 7919 * (0 + i) + 1 + 400 + 1 + 100, S, N, rfl, rfl, hl3, by omega, hT, fun s l4 hs hsS hsN hl4 => ?_⟩
    walk_at "go"
    have hso := nam_odd hs
    have hs8 : 1 ≤ s.length ∧ s.length ≤ 8 ∧ ∀ c ∈ s.cps.toList, c < 55296 := by
      simp only [namB, Bool.and_eq_true, decide_eq_true_eq, List.all_eq_true] at hs
      exact ⟨hs.1, hs.2.1, fun c hc => by have := hs.2.2 c hc; omega⟩
    have hSl := hT.1
    have hNl := hT.2.1
    refine AddA.lst .fr .fr (by simp; omega) ?_
    walk_at "go"
    refine cm1 ⟨p, l4, 7919 * (0 + i) + 1 + 400 + 1 + 100 + 300, s, rfl, rfl, hl4, by omega, hs8.1, hs8.2.1, hs8.2.2, fun d5 l5 ho5 hs5 hl5 => ?_⟩
    walk_at "go"
    refine AddA.lst .fr .fr (by simp; omega) ?_
    walk_at "go"
    refine cm1 ⟨p, l5, 7919 * (0 + i) + 1 + 400 + 1 + 100 + 300 + 10, rfl, rfl, hl5, by omega, fun d6 l6 ho6 hs6 hl6 => ?_⟩
    walk_at "go"
    refine cm1 ⟨p, l6, 7919 * (0 + i) + 1 + 400 + 1 + 100 + 300 + 10 + 1, rfl, rfl, hl6, by omega, fun d7 l7 ho7 hs7 hl7 => ?_⟩
    walk_at "go"
    refine AddA.lst .fr .fr (by simp; omega) ?_
    walk_at "go"
    have hall : ∀ d ∈ S.map D.str ++ N.map D.str ++ [D.str s, d5] ++ [d6, d7], Odd d ∧ ∀ z, d = .str z → z.length ≤ 1000 := by
      intro d hd
      simp only [List.mem_append, List.mem_map, List.mem_cons, List.not_mem_nil, or_false] at hd
      rcases hd with ((⟨z, hz, rfl⟩ | ⟨z, hz, rfl⟩) | (rfl | rfl)) | (rfl | rfl)
      · have := nam_odd (hT.2.2.1 z hz)
        exact ⟨this.1, fun y e => by cases e; exact this.2⟩
      · have := nam_odd (hT.2.2.2.1 z hz)
        exact ⟨this.1, fun y e => by cases e; exact this.2⟩
      · exact ⟨hso.1, fun y e => by cases e; exact hso.2⟩
      · exact ⟨ho5, hs5⟩
      · exact ⟨ho6, hs6⟩
      · exact ⟨ho7, hs7⟩
    generalize S.map D.str ++ N.map D.str ++ [D.str s, d5] ++ [d6, d7] = names at hall
    refine ⟨fun m ρ' M'' => ∃ (y10 y11 : Option D), ρ' = [some (.lsk (ns.map D.int)), some (.int (0 + i)), some (.ref p), some (.tup [.tpn (S.map D.str), .tpn (N.map D.str)]), some (.int t), some (.obj a.Talk (talkF (.tup (S.map D.str)) N t)), some (.tup [isD cs, isD vs]), some (.str (wldP cs vs).shown), some (.str s), some (.lst (S.map D.str ++ N.map D.str ++ [D.str s, d5])), y10, y11, x12, x13, x14, x15, x16, x17, x18] ∧ M'' = (p, .lst l7) :: M', ⟨_, _, rfl, rfl⟩, fun m d ρ' M'' hx hj => ?_, fun ρ' M'' hj => ?_⟩
    · obtain ⟨y10, y11, rfl, rfl⟩ := hj
      have ⟨hod, hosl⟩ := hall d (List.mem_of_getElem? hx)
      walk_at "go"
      refine cm0 ⟨d, rfl, rfl, hod, ?_⟩
      walk_at "go"
      cases hn : namD d with
      | false =>
        refine ⟨fun z => (by cases z), fun _ => ?_⟩
        have gd : goodB S N d = false := by
          cases d with
          | str z => show (namB z && _) = false; rw [show namB z = false from hn]; rfl
          | _ => rfl
        walk_at "go"
        refine cm0 ⟨.tup (S.map D.str), S, N, t, cs, vs, d, rfl, Or.inl rfl, hSs, hNs, hod, rfl, hosl, hcl, hc0, hcs, ?_⟩
        rw [wid_goodD hT (by omega), gd]
        walk_at "go"
        refine ⟨fun h => absurd h (by simp), fun _ => ?_⟩
        walk_at "go"
        exact ⟨_, _, rfl, rfl⟩
      | true =>
        refine ⟨fun _ => ?_, fun z => (by cases z)⟩
        obtain ⟨z, rfl⟩ : ∃ z, d = .str z := by
          cases d with
          | str z => exact ⟨_, rfl⟩
          | _ => cases hn
        walk_at "go"
        refine AddA.tup (by simp; omega) ?_
        refine in_strs (L := S ++ N) (by rw [List.map_append]; exact .tup) ?_
        have ge : goodB S N (.str z) = (namB z && (!decide (z ∈ S ++ N) && decide (S.length < 3))) := rfl
        rw [show namB z = true from hn, Bool.true_and] at ge
        walk_at "go"
        cases hin : decide (z ∈ S ++ N) with
        | true =>
          rw [hin] at ge
          refine ⟨fun z => (by cases z), fun _ => ?_⟩
          walk_at "go"
          refine cm0 ⟨.tup (S.map D.str), S, N, t, cs, vs, .str z, rfl, Or.inl rfl, hSs, hNs, hod, rfl, hosl, hcl, hc0, hcs, ?_⟩
          rw [wid_goodD hT (by omega), ge]
          walk_at "go"
          refine ⟨fun h => absurd h (by simp), fun _ => ?_⟩
          walk_at "go"
          exact ⟨_, _, rfl, rfl⟩
        | false =>
          rw [hin] at ge
          refine ⟨fun _ => ?_, fun z => (by cases z)⟩
          walk_at "go"
          refine cm0 ⟨.tup (S.map D.str), S, N, t, cs, vs, .str z, rfl, Or.inl rfl, hSs, hNs, hod, rfl, hosl, hcl, hc0, hcs, ?_⟩
          rw [wid_goodD hT (by omega), ge]
          walk_at "go"
          have e3 : decide (((S.map D.str).length : Int) < 3) = decide (S.length < 3) := by rw [decide_eq_decide]; simp; omega
          rw [e3]
          refine ⟨fun h => absurd h (by simp), fun _ => ?_⟩
          walk_at "go"
          exact ⟨_, _, rfl, rfl⟩
    · obtain ⟨y10, y11, rfl, rfl⟩ := hj
      walk_at "go"
      refine ite_r (fun h3 => ?_) (fun h3 => ?_)
      · have h3 : S.length < 3 := by simp at h3; omega
        walk_at "go"
        obtain ⟨j, sj1, sj2, sj3, sj4⟩ := sh_due (vs := vs) hT.2.2.2.2.1 hsS (by omega) hcl
        refine cm0 ⟨S, s, cs, rfl, rfl, hSs, hso.2, by omega, hcl, hc0, hcs, sj3, ?_⟩
        walk_at "go"
        obtain ⟨R, hR⟩ : ∃ R, R = sR (rowsP j 0 cs [List.replicate (2 ^ (S.length + 1)) 0]) := ⟨_, rfl⟩
        have hSH : shD (2 ^ (S.length + 1)) j cs vs = R.map fun row => (shItem vs row).1 := by rw [shD_eq, hR]; rfl
        have hRl : (R.length : Int) = prodC cs := by
          rw [hR, (sR_perm _).length_eq, rowsP_len cs 0 _ hc0]; simp
        have hR32 : R.length ≤ 32 := by
          have := prodC_le cs hc0
          have h5 : cs.sum.toNat ≤ 5 := by omega
          have : (2 : Int) ^ cs.sum.toNat ≤ 2 ^ 5 := by exact_mod_cast Nat.pow_le_pow_right (n := 2) (by decide) h5
          omega
        have hR1 : 1 ≤ R.length := by have := prodC_pos cs hc0; omega
        have hRk : ∀ row ∈ R, RowOk (2 ^ (S.length + 1)) cs.sum row := fun row hr => by
          rw [hR] at hr
          have := rowsP_ok (m := 2 ^ (S.length + 1)) (j := j) cs 0 [List.replicate (2 ^ (S.length + 1)) 0] 0 hc0 (fun row hr => by
            rw [List.mem_singleton.mp hr]
            exact ⟨by simp, fun y hy => by rw [(List.mem_replicate.mp hy).2]; omega, by simp⟩) row ((sR_perm _).mem_iff.mp hr)
          rwa [Int.zero_add] at this
        have lawl : (lawD S s cs).length ≤ 32 := by
          have := congrArg List.length sj4
          rw [List.length_map, hSH, List.length_map] at this
          omega
        refine LcA.pure ((lawD S s cs).map fun d => D.tup [d, isD vs]) (by simp) (fun i d hd => ?_) ?_
        · walk_at "go"
          exact lc_post (by simp; omega) (by rw [List.getElem?_map, hd]; rfl)
        rw [sj4]
        walk_at "go"
        have gok : widB S N t (.str s) = true := by
          rw [wid_good hT (by omega), hs]
          have h1 : decide (s ∈ S ++ N) = false := by simp [hsS, hsN]
          rw [h1]; simp [h3]
        refine cm0 ⟨.tup (S.map D.str), S, N, t, cs, vs, .str s, rfl, Or.inl rfl, hSs, hNs, hso.1, rfl, fun no => (by rw [gok] at no; cases no), fun s' e' _ => ?_⟩
        cases e'
        refine ⟨j, by omega, hcl, hc0, hcs, hso.2, sj1, sj2, fun q => ?_⟩
        rw [hSH]
        walk_at "go"
        refine ⟨_, rfl, fun m ρ' M'' => ∃ (y15 : Option D) (pr : Int), ρ' = [some (.lsk (ns.map D.int)), some (.int (0 + i)), some (.ref p), some (.tup [.tpn (S.map D.str), .tpn (N.map D.str)]), some (.int t), some (.obj a.Talk (talkF (.tup (S.map D.str)) N t)), some (.tup [isD cs, isD vs]), some (.str (wldP cs vs).shown), some (.str s), some (.lst (S.map D.str ++ N.map D.str ++ [D.str s, d5])), y10, y11, some (.lst (R.map fun row => (shItem vs row).1)), some (.ref q), some (.int pr), y15, x16, x17, x18] ∧ M'' = (q, .lst (R.map fun row => (shItem vs row).1)) :: (p, .lst l7) :: M' ∧ pr * prodC (cs.drop m) = prodC cs, ⟨_, 1, rfl, rfl, by rw [List.drop_zero]; omega⟩, fun m d ρ' M'' hx hj => ?_, fun ρ' M'' hj => ?_⟩
        · obtain ⟨y15, pr, rfl, rfl, hpr⟩ := hj
          rw [List.getElem?_map] at hx
          cases hq : cs[m]? with
          | none => rw [hq] at hx; cases hx
          | some c =>
            rw [hq] at hx; cases hx
            obtain ⟨hl, e3⟩ := List.getElem?_eq_some_iff.mp hq
            have hc1 := hc0 c (List.mem_of_getElem? hq)
            have hc2 := c5 c (List.mem_of_getElem? hq)
            rw [List.drop_eq_getElem_cons hl, e3] at hpr
            walk_at "go"
            exact ⟨_, _, rfl, rfl, by rw [Int.mul_assoc]; exact hpr⟩
        · obtain ⟨y15, pr, rfl, rfl, hpr⟩ := hj
          rw [List.length_map, List.drop_length] at hpr
          have hpr' : pr = prodC cs := by have e : prodC [] = 1 := rfl
                                          rw [e] at hpr; omega
          subst hpr'
          have hpy : Paired IsPy (R.map fun row => (shItem vs row).1) (R.map fun row => (shItem vs row).2) := py_items18 vs R
          have hnat : ∀ v ∈ vs, 0 ≤ v ∧ v ≤ 1000 := fun v hv => ⟨(hv0 v hv).1, by have := (hv0 v hv).2; omega⟩
          have hr5 : ∀ row ∈ R, ∀ c ∈ row, 0 ≤ c ∧ c ≤ 5 := fun row hr c hc => ⟨(hRk row hr).pos c hc, by have := le_sum20 row (hRk row hr).pos c hc; have := (hRk row hr).sum; omega⟩
          have p8 : 2 ^ (S.length + 1) ≤ 8 := Nat.pow_le_pow_right (n := 2) (by decide) (by omega : S.length + 1 ≤ 3)
          have shw1 : ∀ x ∈ R.map fun row => (shItem vs row).2, Shw 2 1000 x := fun x hx => by
            obtain ⟨row, hrow, rfl⟩ := List.mem_map.mp hx
            exact shw_world (by rw [(hRk row hrow).len]; exact p8) hvn (hr5 row hrow) hnat
          have shwR : Shw 3 40000 (.list (R.map fun row => (shItem vs row).2)) := (Shw.lst shw1).mono (by omega) (by rw [List.length_map]; omega)
          walk_at "go"
          refine repr_r shwR (by decide) (by decide) (.mu (.head _) hpy) (Or.inr ⟨_, rfl⟩) ?_
          walk_at "go"
          refine repr_r shwR (by decide) (by decide) (.fr (.lst hpy)) (Or.inl rfl) ?_
          walk_at "go"
          refine ⟨fun h => absurd h (by simp), fun _ => ?_⟩
          walk_at "go"
          have hll : (((R.map fun row => (shItem vs row).1).length : Nat) : Int) = prodC cs := by rw [List.length_map]; exact hRl
          rw [hll]
          walk_at "go"
          refine ⟨fun h => absurd h (by simp), fun _ => ?_⟩
          walk_at "go"
          refine SortPA.mk (ps := R.map fun row => (shItem vs row).2) (.mu (.head _)) hpy (fun p hp => by have := (shw1 p hp).dep; omega) ?_ ?_ ?_
          · exact PySem.W.AllAlike.of fun p q => by simp [shItem, PySem.W.alike, PySem.W.alikeAll, PySem.W.alike_ints]
          · exact PySem.W.Sortable.tuples fun row => ⟨_, _, rfl⟩
          have ez : (R.map fun row => (shItem vs row).1).zip (R.map fun row => (shItem vs row).2) = R.map (shItem vs) := by rw [List.zip_map']
          have es : sortD (R.map (shItem vs)) = R.map fun row => (shItem vs row).1 := by
            rw [sort_sh]
            rw [hR, sR_eq (sR_perm _)]
          rw [ez, es]
          walk_at "go"
          refine EqPA.py (.mu (.head _) hpy) (.fr (.lst hpy)) (shwR.shaped (by decide)) (shwR.shaped (by decide)) ?_
          rw [eqv_same _ shwR.lay]
          refine ⟨_, rfl, _, rfl, fun h => absurd h (by simp), fun _ => ?_⟩
          walk_at "go"
          refine cm0 ⟨.tup (S.map D.str), S, N, t, .str s, rfl, Or.inl rfl, hSs, hNs, hso.1, rfl, fun _ => ?_, fun no => (by rw [gok] at no; cases no)⟩
          walk_at "go"
          have hW : (srtS (S ++ [s])).length = S.length + 1 := by rw [(srt_perm _).length_eq]; simp
          refine ⟨q, _, rfl, List.mem_cons_self, fun m acc M'' => M'' = (q, .lst (R.map fun row => (shItem vs row).1)) :: (p, .lst l7) :: M' ∧ acc = List.replicate m (D.bl true) ∧ m ≤ R.length, ⟨rfl, rfl, Nat.zero_le _⟩, fun m acc M'' h => by rw [h.1]; exact List.mem_cons_self, fun m d acc M'' hx hj => ?_, fun acc M'' hj => ?_⟩
          · obtain ⟨rfl, rfl, hm⟩ := hj
            rw [List.getElem?_map] at hx
            cases hq : R[m]? with
            | none => rw [hq] at hx; cases hx
            | some row =>
              rw [hq] at hx; cases hx
              have hrow := List.mem_of_getElem? hq
              have hml := (List.getElem?_eq_some_iff.mp hq).1
              have k := hRk row hrow
              walk_at "go"
              refine cm0 ⟨.tpn ((srtS (S ++ [s])).map D.str), srtS (S ++ [s]), N, t, row, vs, rfl, Or.inr rfl, by omega, rfl, by rw [hW]; exact k.len, hvl, by rw [k.len]; omega, by omega, k.pos, hv0, by have := k.sum; omega, ?_⟩
              refine ⟨by simp; omega, rfl, ?_, by omega⟩
              rw [List.replicate_succ']
          · obtain ⟨rfl, rfl, hm⟩ := hj
            walk_at "go"
            refine in_bls (L := List.replicate _ true) (by rw [List.map_replicate]; exact .fr) ?_
            have e0 : ∀ n : Nat, decide (false ∈ List.replicate n true) = false := fun n => by simp
            rw [e0]
            walk_at "go"
            refine ⟨.mlst (l := R.map fun row => (shItem vs row).1) (by simp), ?_⟩
            walk_at "go"
            have hRn : (R.map fun row => (shItem vs row).1).length - 1 < (R.map fun row => (shItem vs row).1).length := by rw [List.length_map]; omega
            refine PopA.mk .here (List.getElem?_eq_getElem hRn) ?_
            walk_at "go"
            refine cm0 ⟨.tup (S.map D.str), S, N, t, cs, vs, .str s, rfl, Or.inl rfl, hSs, hNs, hso.1, rfl, fun no => (by rw [gok] at no; cases no), fun s' e' _ => ?_⟩
            cases e'
            refine ⟨j, by omega, hcl, hc0, hcs, hso.2, sj1, sj2, fun q2 => ?_⟩
            rw [hSH]
            walk_at "go"
            refine repr_r shwR (by decide) (by decide) (.mu (.head _) hpy) (Or.inr ⟨_, rfl⟩) ?_
            walk_at "go"
            refine repr_r shwR (by decide) (by decide) (.fr (.lst hpy)) (Or.inl rfl) ?_
            walk_at "go"
            refine ⟨fun h => absurd h (by simp), fun _ => ?_⟩
            walk_at "go"
            refine repr_r wsh (by decide) (by decide) (.fr (wld_py cs vs)) (Or.inl rfl) ?_
            walk_at "go"
            refine ⟨fun h => absurd h (by simp), fun _ => ?_⟩
            walk_at "go"
            exact ⟨_, _, _, _, _, _, _, _, _, _, _, _, _, _, _, _, _, _, rfl⟩
      · walk_at "go"
        refine repr_r wsh (by decide) (by decide) (.fr (wld_py cs vs)) (Or.inl rfl) ?_
        walk_at "go"
        refine ⟨fun h => absurd h (by simp), fun _ => ?_⟩
        walk_at "go"
        exact ⟨_, _, _, _, _, _, _, _, _, _, _, _, _, _, _, _, _, _, rfl⟩
  · obtain ⟨x1, x2, x3, x4, x5, x6, x7, x8, x9, x10, x11, x12, x13, x14, x15, x16, x17, x18, rfl⟩ := hj
    walk_at "go"
    exact ⟨_, List.nil_sublist _, hp⟩
end K78a
set_option maxRecDepth 100000
set_option maxHeartbeats 0
namespace K78a
open PySem PySem.Spec L2 PyProof.Rows Ab
def adOf (K : PySem.W.Frag) : Ad := ⟨He.ga K "FoldError", He.ga K "NoSaying", He.ga K "NoTalk", He.ga K "NoWorld", He.ga K "Talk"⟩
theorem facts {P : Program} {w : World} {K : PySem.W.Frag} {h : Heap} {mg : Str → Option Value} {f : Addr} (X : K.In h) (G : h.Ns mainGlobals mg) (hfa : mg ("law" : Str) = some (.ref f)) (xt : (xs.all fun x => x.ok K) = true) (c : He.SaysD fa fn K) :
    ∃ fd : FuncData, (∀ (s : Shared) (v : Value), BindsTo s fd ⟨[v], []⟩ [("_law_script", v)]) ∧ ∀ base : Heap, K.In base → base.Ns mainGlobals mg → FnAt P w K mg base (L2.CX P w) 9 callerA f fd ["_law_script"] (spOf K (sp_law (adOf K))) := by
  have F : Fx P w K mg (adOf K) := {
    b_all := He.free_ok X G (c.fact 0 (f := .free "all") rfl)
    b_any := He.free_ok X G (c.fact 1 (f := .free "any") rfl)
    b_bool := He.free_ok X G (c.fact 2 (f := .free "bool") rfl)
    b_enumerate := He.free_ok X G (c.fact 3 (f := .free "enumerate") rfl)
    b_int := He.free_ok X G (c.fact 4 (f := .free "int") rfl)
    b_isinstance := He.free_ok X G (c.fact 5 (f := .free "isinstance") rfl)
    b_len := He.free_ok X G (c.fact 6 (f := .free "len") rfl)
    b_list := He.free_ok X G (c.fact 7 (f := .free "list") rfl)
    b_max := He.free_ok X G (c.fact 8 (f := .free "max") rfl)
    b_min := He.free_ok X G (c.fact 9 (f := .free "min") rfl)
    b_range := He.free_ok X G (c.fact 10 (f := .free "range") rfl)
    b_repr := He.free_ok X G (c.fact 11 (f := .free "repr") rfl)
    b_sorted := He.free_ok X G (c.fact 12 (f := .free "sorted") rfl)
    b_str := He.free_ok X G (c.fact 13 (f := .free "str") rfl)
    b_sum := He.free_ok X G (c.fact 14 (f := .free "sum") rfl)
    b_tuple := He.free_ok X G (c.fact 15 (f := .free "tuple") rfl)
    b_zip := He.free_ok X G (c.fact 16 (f := .free "zip") rfl)
    c_LETTERS := He.str_ok X G (c.fact 17 (f := .str "LETTERS" "abcdefghijklmnopqrstuvwxyz") rfl)
    c_LONGEST := He.int_ok X G (c.fact 18 (f := .int "LONGEST" 8) rfl)
    c_MOST_NUMBERS := He.int_ok X G (c.fact 19 (f := .int "MOST_NUMBERS" 2) rfl)
    c_MOST_SETS := He.int_ok X G (c.fact 20 (f := .int "MOST_SETS" 3) rfl)
    g_FoldError := He.glo_ok X G (c.fact 21 (f := .glo "FoldError") rfl)
    g_NoSaying := He.glo_ok X G (c.fact 22 (f := .glo "NoSaying") rfl)
    g_NoTalk := He.glo_ok X G (c.fact 23 (f := .glo "NoTalk") rfl)
    g_NoWorld := He.glo_ok X G (c.fact 24 (f := .glo "NoWorld") rfl)
    g_Talk := He.glo_ok X G (c.fact 25 (f := .glo "Talk") rfl)
    k_Talk := He.cls_ok (c.fact 26 (f := .cls "Talk") rfl)
    n_Talk_number_names := He.noat_ok (c.fact 27 (f := .noat "Talk" "number_names") rfl)
    n_Talk_set_names := He.noat_ok (c.fact 28 (f := .noat "Talk" "set_names") rfl)
    n_Talk_top := He.noat_ok (c.fact 29 (f := .noat "Talk" "top") rfl)
    x_NoTalk := (xexb (xat xt 0 (x := .exb "NoTalk" veB "ValueError.__new__") rfl)).1
    p_NoTalk := (xexb (xat xt 0 (x := .exb "NoTalk" veB "ValueError.__new__") rfl)).2.1
    e_NoTalk := (xexb (xat xt 0 (x := .exb "NoTalk" veB "ValueError.__new__") rfl)).2.2.1
    t_NoTalk := (xexb (xat xt 0 (x := .exb "NoTalk" veB "ValueError.__new__") rfl)).2.2.2
    ty_FoldError := (List.forall_mem_cons.mpr ⟨He.exm_ok (c.fact 30 (f := .exm "NoTalk" "FoldError" true) rfl), (fun _ h => nomatch h)⟩)
    tn_FoldError := (fun _ h => nomatch h)
    isx := (List.forall_mem_cons.mpr ⟨⟨xexcC (xat xt 1 (x := .excC "NoTalk") rfl), xkitn (xat xt 4 (x := .kitn "NoTalk" ["NoTalk"] true) rfl)⟩, (List.forall_mem_cons.mpr ⟨⟨xexcC (xat xt 1 (x := .excC "NoTalk") rfl), xkitn (xat xt 2 (x := .kitn "NoTalk" ["NoSaying", "NoWorld"] false) rfl)⟩, (fun _ h => nomatch h)⟩)⟩)
    isx1 := (List.forall_mem_cons.mpr ⟨(fun _ h => by cases h; exact xkit1 (xat xt 3 (x := .kit1 "NoTalk" "NoTalk" true) rfl)), (List.forall_mem_cons.mpr ⟨(fun _ h => by cases h), (fun _ h => nomatch h)⟩)⟩) }
  obtain ⟨fd_is_whole, D_is_whole⟩ := c.def_ 0 (d := d_is_whole) rfl
  obtain ⟨fd_is_name, D_is_name⟩ := c.def_ 1 (d := d_is_name) rfl
  obtain ⟨fd_are_names, D_are_names⟩ := c.def_ 2 (d := d_are_names) rfl
  obtain ⟨fd_shared_out, D_shared_out⟩ := c.def_ 3 (d := d_shared_out) rfl
  obtain ⟨fd_Talk_init, D_Talk_init⟩ := c.def_ 4 (d := d_Talk_init) rfl
  obtain ⟨fd_Talk_sets, D_Talk_sets⟩ := c.def_ 5 (d := d_Talk_sets) rfl
  obtain ⟨fd_Talk_numbers, D_Talk_numbers⟩ := c.def_ 6 (d := d_Talk_numbers) rfl
  obtain ⟨fd_Talk_most, D_Talk_most⟩ := c.def_ 7 (d := d_Talk_most) rfl
  obtain ⟨fd_Talk_regions, D_Talk_regions⟩ := c.def_ 8 (d := d_Talk_regions) rfl
  obtain ⟨fd_Talk_need_region, D_Talk_need_region⟩ := c.def_ 9 (d := d_Talk_need_region) rfl
  obtain ⟨fd_Talk_wider, D_Talk_wider⟩ := c.def_ 10 (d := d_Talk_wider) rfl
  obtain ⟨fd_Talk_halves, D_Talk_halves⟩ := c.def_ 11 (d := d_Talk_halves) rfl
  obtain ⟨fd_is_world, D_is_world⟩ := c.def_ 12 (d := d_is_world) rfl
  obtain ⟨fd_shares, D_shares⟩ := c.def_ 13 (d := d_shares) rfl
  obtain ⟨fd_l_pool, D_l_pool⟩ := c.def_ 14 (d := d_l_pool) rfl
  obtain ⟨fd_l_take, D_l_take⟩ := c.def_ 15 (d := d_l_take) rfl
  obtain ⟨fd_l_names, D_l_names⟩ := c.def_ 16 (d := d_l_names) rfl
  obtain ⟨fd_l_tongue, D_l_tongue⟩ := c.def_ 17 (d := d_l_tongue) rfl
  obtain ⟨fd_l_odd, D_l_odd⟩ := c.def_ 18 (d := d_l_odd) rfl
  obtain ⟨fd_l_bent, D_l_bent⟩ := c.def_ 19 (d := d_l_bent) rfl
  obtain ⟨fd_l_lies, D_l_lies⟩ := c.def_ 20 (d := d_l_lies) rfl
  obtain ⟨fd_l_is_name, D_l_is_name⟩ := c.def_ 21 (d := d_l_is_name) rfl
  obtain ⟨fd_l_fresh, D_l_fresh⟩ := c.def_ 22 (d := d_l_fresh) rfl
  obtain ⟨fd_l_few, D_l_few⟩ := c.def_ 23 (d := d_l_few) rfl
  obtain ⟨fd_l_shares, D_l_shares⟩ := c.def_ 24 (d := d_l_shares) rfl
  obtain ⟨fd_l_refused, D_l_refused⟩ := c.def_ 25 (d := d_l_refused) rfl
  obtain ⟨fd_law, D_law⟩ := c.def_ 26 (d := d_law) rfl
  have e := hfa.symm.trans (He.glo_ok X G (c.fact 31 (f := .glo "law") rfl))
  cases e
  have b := FunD.bindsA (ps := ["_law_script"]) D_law fun _ _ _ _ _ _ us hl => match us, hl with | [_], _ => rfl
  refine ⟨fd_law, fun s v => b s [v] rfl, fun base _ _ => ?_⟩
  have G_is_whole : FnOk P w K mg base (L2.CX P w) 1 _ fd_is_whole ["thing", "least", "most"] (spOf K (sp_is_whole (adOf K))) := afn D_is_whole sc_is_whole (fun ds M P EX h => by unfold sp_is_whole at h; (repeat (obtain ⟨_, h⟩ := h)); subst_vars; rfl) (fun cdv A outer s H E hr => den_is_whole F  hr) (vc_is_whole _)
  have h_is_whole_l : Fn1 P w K mg base "is_whole" 1 ["least"] 1 1 (fun ds es => ds ++ es ++ [.non]) (sp_is_whole (adOf K)) := ⟨_, _, _, G_is_whole, He.glo_ok X G (c.fact 32 (f := .glo "is_whole") rfl), D_is_whole.kp, (by obtain ⟨mv, B⟩ := kbinds0 (K := K) (ps := ["thing", "least", "most"]) D_is_whole 1 ["least"] [("most", .non)] (fun us mv ws => us ++ ws ++ mv) (by simp [He.DefD.kws, d_is_whole]) (fun q h => by simp [He.DefD.kws, d_is_whole, He.Dv.v] at h ⊢; exact Or.inr h) (fun h1 h2 h3 => (h1.append h3).append h2) (fun D doc pm an cdv ct us mv ws h1 h2 h3 => match us, mv, ws, h1, h2, h3 with | [_], [_], [_], _, _, _ => ⟨_, _, _, _, _, _, rfl, rfl, rfl⟩); exact kb_n B (fun _ _ _ _ _ _ _ _ d1 d2 => (d1.append d2).append (.cons .non .nil)))⟩
  have h_is_whole_lm : Fn1 P w K mg base "is_whole" 1 ["least", "most"] 1 2 (fun ds es => ds ++ es) (sp_is_whole (adOf K)) := ⟨_, _, _, G_is_whole, He.glo_ok X G (c.fact 32 (f := .glo "is_whole") rfl), D_is_whole.kp, (by obtain ⟨mv, B⟩ := kbinds0 (K := K) (ps := ["thing", "least", "most"]) D_is_whole 1 ["least", "most"] [] (fun us mv ws => us ++ ws) (by simp [He.DefD.kws, d_is_whole]) (fun q h => nomatch h) (fun h1 _ h3 => h1.append h3) (fun D doc pm an cdv ct us mv ws h1 h2 h3 => match us, mv, ws, h1, h2, h3 with | [_], [], [_, _], _, _, _ => rfl); exact kb_n B (fun _ _ _ _ _ _ _ _ d1 d2 => d1.append d2))⟩
  have G_is_name : FnOk P w K mg base (L2.CX P w) 1 _ fd_is_name ["thing"] (spOf K (sp_is_name (adOf K))) := afn D_is_name sc_is_name (fun ds M P EX h => by unfold sp_is_name at h; (repeat (obtain ⟨_, h⟩ := h)); subst_vars; rfl) (fun cdv A outer s H E hr => den_is_name F  hr) (vc_is_name _)
  have h_is_name : Fn1 P w K mg base "is_name" 1 [] 1 0 (fun ds _ => ds) (sp_is_name (adOf K)) := fn1_plain G_is_name D_is_name (He.glo_ok X G (c.fact 33 (f := .glo "is_name") rfl)) rfl (fun _ _ _ _ _ _ us hl => match us, hl with | [_], _ => rfl)
  have G_are_names : FnOk P w K mg base (L2.CX P w) 2 _ fd_are_names ["thing", "many"] (spOf K (sp_are_names (adOf K))) := afn D_are_names sc_are_names (fun ds M P EX h => by unfold sp_are_names at h; (repeat (obtain ⟨_, h⟩ := h)); subst_vars; rfl) (fun cdv A outer s H E hr => den_are_names F h_is_name hr) (vc_are_names _)
  have h_are_names : Fn1 P w K mg base "are_names" 2 [] 2 0 (fun ds _ => ds) (sp_are_names (adOf K)) := fn1_plain G_are_names D_are_names (He.glo_ok X G (c.fact 34 (f := .glo "are_names") rfl)) rfl (fun _ _ _ _ _ _ us hl => match us, hl with | [_, _], _ => rfl)
  have G_shared_out : FnOk P w K mg base (L2.CX P w) 1 _ fd_shared_out ["row", "halves", "count", "inside"] (spOf K (sp_shared_out (adOf K))) := afn D_shared_out sc_shared_out (fun ds M P EX h => by unfold sp_shared_out at h; (repeat (obtain ⟨_, h⟩ := h)); subst_vars; rfl) (fun cdv A outer s H E hr => den_shared_out F  hr) (vc_shared_out _)
  have h_shared_out : Fn1 P w K mg base "shared_out" 1 [] 4 0 (fun ds _ => ds) (sp_shared_out (adOf K)) := fn1_plain G_shared_out D_shared_out (He.glo_ok X G (c.fact 35 (f := .glo "shared_out") rfl)) rfl (fun _ _ _ _ _ _ us hl => match us, hl with | [_, _, _, _], _ => rfl)
  have G_Talk_init : FnOk P w K mg base (L2.CX P w) 3 _ fd_Talk_init ["self", "sets", "numbers", "most"] (spOf K (sp_Talk_init (adOf K))) := afn D_Talk_init sc_Talk_init (fun ds M P EX h => by unfold sp_Talk_init at h; (repeat (obtain ⟨_, h⟩ := h)); subst_vars; rfl) (fun cdv A outer s H E hr => den_Talk_init F h_are_names h_is_whole_l hr) (vc_Talk_init _)
  have h_Talk_m : Mk1 P w K mg base "Talk" (adOf K).Talk 3 ["most"] 2 1 (fun ds es => ds ++ es) (sp_Talk_init (adOf K)) := ⟨_, _, _, G_Talk_init, He.mkr_ok (c.fact 36 (f := .mkr "Talk") rfl), F.g_Talk, (by obtain ⟨its, mv, B⟩ := FunD.kbinds (K := K) (ps := ["self", "sets", "numbers", "most"]) D_Talk_init 3 ["most"] [] (fun us _ _ ws => us ++ ws) (by simp [He.DefD.dvs, d_Talk_init]) (by simp [He.DefD.kws, d_Talk_init]) (fun q h => nomatch h) (fun h1 _ _ h4 => h1.append h4) (fun T D doc pm an cdv ct us its mv ws h1 h2 h3 h4 => match us, its, mv, ws, h1, h2, h3, h4 with | [_, _, _], [_, _], [], [_], _, _, _, _ => ⟨_, rfl, rfl⟩); exact km_n (n := 2) (gU' := fun us ws => us ++ ws) (gV' := fun vs zs => vs ++ zs) B (fun _ _ _ => rfl) (fun _ _ _ => rfl) (fun _ _ _ _ _ _ _ _ d1 d2 => d1.append d2))⟩
  have G_Talk_sets : FnOk P w K mg base (L2.CX P w) 1 _ fd_Talk_sets ["self"] (spOf K (sp_Talk_sets (adOf K))) := afn D_Talk_sets sc_Talk_sets (fun ds M P EX h => by unfold sp_Talk_sets at h; (repeat (obtain ⟨_, h⟩ := h)); subst_vars; rfl) (fun cdv A outer s H E hr => den_Talk_sets F  hr) (vc_Talk_sets _)
  have h_Talk_sets : Mt1 P w K mg base (adOf K).Talk "sets" 1 [] 1 0 (fun ds _ => ds) (sp_Talk_sets (adOf K)) := mt1_plain G_Talk_sets D_Talk_sets F.k_Talk (He.meth_ok (c.fact 37 (f := .meth "Talk" "sets") rfl)) rfl (fun _ _ _ _ _ _ us hl => match us, hl with | [_], _ => rfl)
  have G_Talk_numbers : FnOk P w K mg base (L2.CX P w) 1 _ fd_Talk_numbers ["self"] (spOf K (sp_Talk_numbers (adOf K))) := afn D_Talk_numbers sc_Talk_numbers (fun ds M P EX h => by unfold sp_Talk_numbers at h; (repeat (obtain ⟨_, h⟩ := h)); subst_vars; rfl) (fun cdv A outer s H E hr => den_Talk_numbers F  hr) (vc_Talk_numbers _)
  have h_Talk_numbers : Mt1 P w K mg base (adOf K).Talk "numbers" 1 [] 1 0 (fun ds _ => ds) (sp_Talk_numbers (adOf K)) := mt1_plain G_Talk_numbers D_Talk_numbers F.k_Talk (He.meth_ok (c.fact 38 (f := .meth "Talk" "numbers") rfl)) rfl (fun _ _ _ _ _ _ us hl => match us, hl with | [_], _ => rfl)
  have G_Talk_most : FnOk P w K mg base (L2.CX P w) 1 _ fd_Talk_most ["self"] (spOf K (sp_Talk_most (adOf K))) := afn D_Talk_most sc_Talk_most (fun ds M P EX h => by unfold sp_Talk_most at h; (repeat (obtain ⟨_, h⟩ := h)); subst_vars; rfl) (fun cdv A outer s H E hr => den_Talk_most F  hr) (vc_Talk_most _)
  have h_Talk_most : Mt1 P w K mg base (adOf K).Talk "most" 1 [] 1 0 (fun ds _ => ds) (sp_Talk_most (adOf K)) := mt1_plain G_Talk_most D_Talk_most F.k_Talk (He.meth_ok (c.fact 39 (f := .meth "Talk" "most") rfl)) rfl (fun _ _ _ _ _ _ us hl => match us, hl with | [_], _ => rfl)
  have G_Talk_regions : FnOk P w K mg base (L2.CX P w) 1 _ fd_Talk_regions ["self"] (spOf K (sp_Talk_regions (adOf K))) := afn D_Talk_regions sc_Talk_regions (fun ds M P EX h => by unfold sp_Talk_regions at h; (repeat (obtain ⟨_, h⟩ := h)); subst_vars; rfl) (fun cdv A outer s H E hr => den_Talk_regions F  hr) (vc_Talk_regions _)
  have h_Talk_regions : Mt1 P w K mg base (adOf K).Talk "regions" 1 [] 1 0 (fun ds _ => ds) (sp_Talk_regions (adOf K)) := mt1_plain G_Talk_regions D_Talk_regions F.k_Talk (He.meth_ok (c.fact 40 (f := .meth "Talk" "regions") rfl)) rfl (fun _ _ _ _ _ _ us hl => match us, hl with | [_], _ => rfl)
  have G_Talk_need_region : FnOk P w K mg base (L2.CX P w) 2 _ fd_Talk_need_region ["self", "region"] (spOf K (sp_Talk_need_region (adOf K))) := afn D_Talk_need_region sc_Talk_need_region (fun ds M P EX h => by unfold sp_Talk_need_region at h; (repeat (obtain ⟨_, h⟩ := h)); subst_vars; rfl) (fun cdv A outer s H E hr => den_Talk_need_region F h_is_whole_lm h_Talk_regions hr) (vc_Talk_need_region _)
  have h_Talk_need_region : Mt1 P w K mg base (adOf K).Talk "need_region" 2 [] 2 0 (fun ds _ => ds) (sp_Talk_need_region (adOf K)) := mt1_plain G_Talk_need_region D_Talk_need_region F.k_Talk (He.meth_ok (c.fact 41 (f := .meth "Talk" "need_region") rfl)) rfl (fun _ _ _ _ _ _ us hl => match us, hl with | [_, _], _ => rfl)
  have G_Talk_wider : FnOk P w K mg base (L2.CX P w) 5 _ fd_Talk_wider ["self", "name"] (spOf K (sp_Talk_wider (adOf K))) := afn D_Talk_wider sc_Talk_wider (fun ds M P EX h => by unfold sp_Talk_wider at h; (repeat (obtain ⟨_, h⟩ := h)); subst_vars; rfl) (fun cdv A outer s H E hr => den_Talk_wider F h_is_name h_Talk_m hr) (vc_Talk_wider _)
  have h_Talk_wider : Mt1 P w K mg base (adOf K).Talk "wider" 5 [] 2 0 (fun ds _ => ds) (sp_Talk_wider (adOf K)) := mt1_plain G_Talk_wider D_Talk_wider F.k_Talk (He.meth_ok (c.fact 42 (f := .meth "Talk" "wider") rfl)) rfl (fun _ _ _ _ _ _ us hl => match us, hl with | [_, _], _ => rfl)
  have G_Talk_halves : FnOk P w K mg base (L2.CX P w) 6 _ fd_Talk_halves ["self", "region", "name"] (spOf K (sp_Talk_halves (adOf K))) := afn D_Talk_halves sc_Talk_halves (fun ds M P EX h => by unfold sp_Talk_halves at h; (repeat (obtain ⟨_, h⟩ := h)); subst_vars; rfl) (fun cdv A outer s H E hr => den_Talk_halves F h_Talk_wider h_Talk_sets h_Talk_need_region hr) (vc_Talk_halves _)
  have h_Talk_halves : Mt1 P w K mg base (adOf K).Talk "halves" 6 [] 3 0 (fun ds _ => ds) (sp_Talk_halves (adOf K)) := mt1_plain G_Talk_halves D_Talk_halves F.k_Talk (He.meth_ok (c.fact 43 (f := .meth "Talk" "halves") rfl)) rfl (fun _ _ _ _ _ _ us hl => match us, hl with | [_, _, _], _ => rfl)
  have G_is_world : FnOk P w K mg base (L2.CX P w) 2 _ fd_is_world ["talk", "thing"] (spOf K (sp_is_world (adOf K))) := afn D_is_world sc_is_world (fun ds M P EX h => by unfold sp_is_world at h; (repeat (obtain ⟨_, h⟩ := h)); subst_vars; rfl) (fun cdv A outer s H E hr => den_is_world F h_Talk_regions h_Talk_numbers h_is_whole_l h_is_whole_lm h_Talk_most hr) (vc_is_world _)
  have h_is_world : Fn1 P w K mg base "is_world" 2 [] 2 0 (fun ds _ => ds) (sp_is_world (adOf K)) := fn1_plain G_is_world D_is_world (He.glo_ok X G (c.fact 44 (f := .glo "is_world") rfl)) rfl (fun _ _ _ _ _ _ us hl => match us, hl with | [_, _], _ => rfl)
  have G_shares : FnOk P w K mg base (L2.CX P w) 7 _ fd_shares ["talk", "world", "name"] (spOf K (sp_shares (adOf K))) := afn D_shares sc_shares (fun ds M P EX h => by unfold sp_shares at h; (repeat (obtain ⟨_, h⟩ := h)); subst_vars; rfl) (fun cdv A outer s H E hr => den_shares F h_Talk_wider h_Talk_regions h_Talk_halves h_shared_out hr) (vc_shares _)
  have h_shares : Fn1 P w K mg base "shares" 7 [] 3 0 (fun ds _ => ds) (sp_shares (adOf K)) := fn1_plain G_shares D_shares (He.glo_ok X G (c.fact 45 (f := .glo "shares") rfl)) rfl (fun _ _ _ _ _ _ us hl => match us, hl with | [_, _, _], _ => rfl)
  have G_l_pool : FnOk P w K mg base (L2.CX P w) 1 _ fd_l_pool ["_law_script", "_law_k"] (spOf K (sp_l_pool (adOf K))) := afn D_l_pool sc_l_pool (fun ds M P EX h => by unfold sp_l_pool at h; (repeat (obtain ⟨_, h⟩ := h)); subst_vars; rfl) (fun cdv A outer s H E hr => den_l_pool F  hr) (vc_l_pool _)
  have h_l_pool : Fn1 P w K mg base "_law_pool" 1 [] 2 0 (fun ds _ => ds) (sp_l_pool (adOf K)) := fn1_plain G_l_pool D_l_pool (He.glo_ok X G (c.fact 46 (f := .glo "_law_pool") rfl)) rfl (fun _ _ _ _ _ _ us hl => match us, hl with | [_, _], _ => rfl)
  have G_l_take : FnOk P w K mg base (L2.CX P w) 1 _ fd_l_take ["_law_pool_here", "_law_many"] (spOf K (sp_l_take (adOf K))) := afn D_l_take sc_l_take (fun ds M P EX h => by unfold sp_l_take at h; (repeat (obtain ⟨_, h⟩ := h)); subst_vars; rfl) (fun cdv A outer s H E hr => den_l_take F  hr) (vc_l_take _)
  have h_l_take : Fn1 P w K mg base "_law_take" 1 [] 2 0 (fun ds _ => ds) (sp_l_take (adOf K)) := fn1_plain G_l_take D_l_take (He.glo_ok X G (c.fact 47 (f := .glo "_law_take") rfl)) rfl (fun _ _ _ _ _ _ us hl => match us, hl with | [_, _], _ => rfl)
  have G_l_names : FnOk P w K mg base (L2.CX P w) 2 _ fd_l_names ["_law_pool_here", "_law_many"] (spOf K (sp_l_names (adOf K))) := afn D_l_names sc_l_names (fun ds M P EX h => by unfold sp_l_names at h; (repeat (obtain ⟨_, h⟩ := h)); subst_vars; rfl) (fun cdv A outer s H E hr => den_l_names F h_l_take hr) (vc_l_names _)
  have h_l_names : Fn1 P w K mg base "_law_names" 2 [] 2 0 (fun ds _ => ds) (sp_l_names (adOf K)) := fn1_plain G_l_names D_l_names (He.glo_ok X G (c.fact 48 (f := .glo "_law_names") rfl)) rfl (fun _ _ _ _ _ _ us hl => match us, hl with | [_, _], _ => rfl)
  have G_l_tongue : FnOk P w K mg base (L2.CX P w) 3 _ fd_l_tongue ["_law_pool_here", "_law_many", "_law_digits"] (spOf K (sp_l_tongue (adOf K))) := afn D_l_tongue sc_l_tongue (fun ds M P EX h => by unfold sp_l_tongue at h; (repeat (obtain ⟨_, h⟩ := h)); subst_vars; rfl) (fun cdv A outer s H E hr => den_l_tongue F h_l_take h_l_names hr) (vc_l_tongue _)
  have h_l_tongue : Fn1 P w K mg base "_law_tongue" 3 [] 3 0 (fun ds _ => ds) (sp_l_tongue (adOf K)) := fn1_plain G_l_tongue D_l_tongue (He.glo_ok X G (c.fact 49 (f := .glo "_law_tongue") rfl)) rfl (fun _ _ _ _ _ _ us hl => match us, hl with | [_, _, _], _ => rfl)
  have G_l_odd : FnOk P w K mg base (L2.CX P w) 2 _ fd_l_odd ["_law_pool_here"] (spOf K (sp_l_odd (adOf K))) := afn D_l_odd sc_l_odd (fun ds M P EX h => by unfold sp_l_odd at h; (repeat (obtain ⟨_, h⟩ := h)); subst_vars; rfl) (fun cdv A outer s H E hr => den_l_odd F h_l_take hr) (vc_l_odd _)
  have h_l_odd : Fn1 P w K mg base "_law_odd" 2 [] 1 0 (fun ds _ => ds) (sp_l_odd (adOf K)) := fn1_plain G_l_odd D_l_odd (He.glo_ok X G (c.fact 50 (f := .glo "_law_odd") rfl)) rfl (fun _ _ _ _ _ _ us hl => match us, hl with | [_], _ => rfl)
  have G_l_bent : FnOk P w K mg base (L2.CX P w) 3 _ fd_l_bent ["_law_pool_here", "_law_thing", "_law_deep"] (spOf K (sp_l_bent (adOf K))) := afn D_l_bent sc_l_bent (fun ds M P EX h => by unfold sp_l_bent at h; (repeat (obtain ⟨_, h⟩ := h)); subst_vars; rfl) (fun cdv A outer s H E hr => den_l_bent F h_l_take h_l_odd hr) (vc_l_bent _)
  have h_l_bent : Fn1 P w K mg base "_law_bent" 3 [] 3 0 (fun ds _ => ds) (sp_l_bent (adOf K)) := fn1_plain G_l_bent D_l_bent (He.glo_ok X G (c.fact 51 (f := .glo "_law_bent") rfl)) rfl (fun _ _ _ _ _ _ us hl => match us, hl with | [_, _, _], _ => rfl)
  have G_l_lies : FnOk P w K mg base (L2.CX P w) 1 _ fd_l_lies ["_law_groups", "_law_region", "_law_name"] (spOf K (sp_l_lies (adOf K))) := afn D_l_lies sc_l_lies (fun ds M P EX h => by unfold sp_l_lies at h; (repeat (obtain ⟨_, h⟩ := h)); subst_vars; rfl) (fun cdv A outer s H E hr => den_l_lies F  hr) (vc_l_lies _)
  have h_l_lies : Fn1 P w K mg base "_law_lies" 1 [] 3 0 (fun ds _ => ds) (sp_l_lies (adOf K)) := fn1_plain G_l_lies D_l_lies (He.glo_ok X G (c.fact 52 (f := .glo "_law_lies") rfl)) rfl (fun _ _ _ _ _ _ us hl => match us, hl with | [_, _, _], _ => rfl)
  have G_l_is_name : FnOk P w K mg base (L2.CX P w) 1 _ fd_l_is_name ["_law_thing"] (spOf K (sp_l_is_name (adOf K))) := afn D_l_is_name sc_l_is_name (fun ds M P EX h => by unfold sp_l_is_name at h; (repeat (obtain ⟨_, h⟩ := h)); subst_vars; rfl) (fun cdv A outer s H E hr => den_l_is_name F  hr) (vc_l_is_name _)
  have h_l_is_name : Fn1 P w K mg base "_law_is_name" 1 [] 1 0 (fun ds _ => ds) (sp_l_is_name (adOf K)) := fn1_plain G_l_is_name D_l_is_name (He.glo_ok X G (c.fact 53 (f := .glo "_law_is_name") rfl)) rfl (fun _ _ _ _ _ _ us hl => match us, hl with | [_], _ => rfl)
  have G_l_fresh : FnOk P w K mg base (L2.CX P w) 3 _ fd_l_fresh ["_law_pool_here", "_law_tongue_here"] (spOf K (sp_l_fresh (adOf K))) := afn D_l_fresh sc_l_fresh (fun ds M P EX h => by unfold sp_l_fresh at h; (repeat (obtain ⟨_, h⟩ := h)); subst_vars; rfl) (fun cdv A outer s H E hr => den_l_fresh F h_l_names hr) (vc_l_fresh _)
  have h_l_fresh : Fn1 P w K mg base "_law_fresh" 3 [] 2 0 (fun ds _ => ds) (sp_l_fresh (adOf K)) := fn1_plain G_l_fresh D_l_fresh (He.glo_ok X G (c.fact 54 (f := .glo "_law_fresh") rfl)) rfl (fun _ _ _ _ _ _ us hl => match us, hl with | [_, _], _ => rfl)
  have G_l_few : FnOk P w K mg base (L2.CX P w) 2 _ fd_l_few ["_law_pool_here", "_law_tongue_here", "_law_many", "_law_top"] (spOf K (sp_l_few (adOf K))) := afn D_l_few sc_l_few (fun ds M P EX h => by unfold sp_l_few at h; (repeat (obtain ⟨_, h⟩ := h)); subst_vars; rfl) (fun cdv A outer s H E hr => den_l_few F h_l_take hr) (vc_l_few _)
  have h_l_few : Fn1 P w K mg base "_law_few" 2 [] 4 0 (fun ds _ => ds) (sp_l_few (adOf K)) := fn1_plain G_l_few D_l_few (He.glo_ok X G (c.fact 55 (f := .glo "_law_few") rfl)) rfl (fun _ _ _ _ _ _ us hl => match us, hl with | [_, _, _, _], _ => rfl)
  have G_l_shares : FnOk P w K mg base (L2.CX P w) 2 _ fd_l_shares ["_law_groups", "_law_counts", "_law_name"] (spOf K (sp_l_shares (adOf K))) := afn D_l_shares sc_l_shares (fun ds M P EX h => by unfold sp_l_shares at h; (repeat (obtain ⟨_, h⟩ := h)); subst_vars; rfl) (fun cdv A outer s H E hr => den_l_shares F h_l_lies hr) (vc_l_shares _)
  have h_l_shares : Fn1 P w K mg base "_law_shares" 2 [] 3 0 (fun ds _ => ds) (sp_l_shares (adOf K)) := fn1_plain G_l_shares D_l_shares (He.glo_ok X G (c.fact 56 (f := .glo "_law_shares") rfl)) rfl (fun _ _ _ _ _ _ us hl => match us, hl with | [_, _, _], _ => rfl)
  have G_l_refused : FnOk P w K mg base (L2.CX P w) 8 _ fd_l_refused ["_law_talk", "_law_world", "_law_name"] (spOf K (sp_l_refused (adOf K))) := afn D_l_refused sc_l_refused (fun ds M P EX h => by unfold sp_l_refused at h; (repeat (obtain ⟨_, h⟩ := h)); subst_vars; rfl) (fun cdv A outer s H E hr => den_l_refused F h_shares hr) (vc_l_refused _)
  have h_l_refused : Fn1 P w K mg base "_law_refused" 8 [] 3 0 (fun ds _ => ds) (sp_l_refused (adOf K)) := fn1_plain G_l_refused D_l_refused (He.glo_ok X G (c.fact 57 (f := .glo "_law_refused") rfl)) rfl (fun _ _ _ _ _ _ us hl => match us, hl with | [_, _, _], _ => rfl)
  exact afnAt (k := 8) callerA D_law sc_law (fun ds M P EX h => by unfold sp_law at h; (repeat (obtain ⟨_, h⟩ := h)); subst_vars; rfl) (fun cdv outer s H E hr => den_law F h_l_pool h_l_tongue h_l_take h_Talk_m h_l_few h_l_fresh h_l_bent h_l_odd h_l_is_name h_l_refused h_l_shares h_shares h_Talk_wider h_is_world hr rfl) (vc_law _)
end K78a
open PySem PySem.W PySem.Calls PyProof.Rows
theorem PySem.Challenge.cw_countfold_k78_shares_holds : PySem.Challenge.rw_countfold_k78_shares.Holds := by
  w_on; o_law
  refine HandSHeadRun.head_any (r := OpenLaw.row PySem.Challenge.rw_countfold_k78_shares) (q := view (OpenLaw.row PySem.Challenge.rw_countfold_k78_shares).prog [38]) (H := K78a.hk) (ob := K78a.ob) (M := 4000) (loose := K78a.loose) (d := HandSHeadRun.topDef (OpenLaw.row PySem.Challenge.rw_countfold_k78_shares).prog 38) (kwd := []) K78a.ob_eq
    (by kernel_rfl) (fun s => by kernel_rfl) K78a.run (by kernel_rfl) (by kernel_rfl) (by kernel_rfl) (by rfl) (by first | assumption | decide +kernel) (by decide +kernel) ⟨rfl, rfl, rfl, rfl, rfl, by decide +kernel⟩ ?hw ?hc
  case hw => w_witness2
  case hc =>
    refine L2.walk_ofG (l := PySem.Challenge.rw_countfold_k78_shares) (n := 63) (k := 9) (x := "_law_script") (CX := fun w => L2.CX (PySem.Challenge.rw_countfold_k78_shares).prog w) rfl (by decide) (by kernel_rfl) ⟨rfl, by decide, by decide⟩ ?F ?CX
    case CX =>
      intro w H s e s' ⟨_, _, _, _, _, _, _, _, _, _, _, _, z⟩
      exact z
    case F =>
      intro w mg fa h Y G hmg0
      obtain ⟨K, KX, xt, c⟩ := Y
      have hmg : mg ("law" : PySem.Str) = some (.ref fa) := by
        have e : (HandSHeadRun.topDef (OpenLaw.row PySem.Challenge.rw_countfold_k78_shares).prog 38).name = ("law" : PySem.Str) := by kernel_rfl
        rw [← e]
        exact hmg0
      obtain ⟨fd, hb, hF⟩ := K78a.facts (P := (PySem.Challenge.rw_countfold_k78_shares).prog) (w := w) KX G hmg xt c
      exact ⟨K, fd, Ab.spOf K (K78a.sp_law (K78a.adOf K)), KX, hb, fun H a ns hl _ hS => Ab.law_sp hS ⟨ns, rfl, rfl, rfl⟩, hF⟩
