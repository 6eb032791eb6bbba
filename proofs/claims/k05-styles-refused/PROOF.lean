import PyProof.Rows.All
import Wide.All
import OpenK.AllK
import Wide.FinOn
import KE.KStateDown
import HandS.ForMost
import HandS.ForExc
import HandS.Wide
import HandS.Defaults
import HandS.TupAny
import HandS.HeadHook1
import HandS.HeadHook2
import HandS.Lambda
import HandS.TupMul
import PyProof.StrOps2
import HandS.TupLe
import HandS.Style
import HandS.IsInst
import HandS.WordsDict
import HandS.WideBits
import HandS.Replace
import HandS.EndTab
import HandS.EndBits
import HandS.Star
import HandS.ClsMeth
import HandS.Property
import KE.GoesEnum
import KE.GoesMore
import HandS.Head0
import HandS.Head1
import HandS.Head2
import HandS.HeadEnd
import HandS.ExcInit
import HandS.Conv
import KE.KDflt
import HandS.TryOnly
import KE.KTryMore
import HandS.ExcValue
import KE.KExcIs
import HandS.ExcField
import KE.KCallOwn
import KE.KOpsOwn
import HandS.More
import HandS.Words
import HandS.WordsExc
import PySem.Challenge.RW_shortspans_k05_whole_styles_refused
set_option Elab.async false
set_option linter.all false
set_option maxRecDepth 100000
set_option maxHeartbeats 0
/-! Z: a layer of data over the hand layer. -/
namespace Z
open PySem PySem.Spec PyProof.Rows L2

/-- data: what a value is, tuples as a whole; ref n: the n-th thing of the heap of data -/
inductive D where
  | non | bl (b : Bool) | int (i : Int) | str (s : Str) | ty (n : String) | glo (x : Str) | ref (n : Nat) | tup (l : List D) | frl (l : List D) | fn (f c : Addr) (q : Str) (l : List D) (us : List V)

/-- things that change -/
inductive O where
  | lst (xs : List D)
  | dct (kvs : List (Key × D))
  | dcl (kvs : List (Key × D))
  | ins (C : Str) (fs : List (Str × D))
  | exc (C : Str) (fs : List (Str × D))
  | raw (h : HO)
abbrev AH := List O

/-- a list that nobody changes -/
def SqF (K : PySem.W.Frag) (H : Hp) (a : Addr) (xs : List V) : Prop :=
  (∃ o, H a = some (.frz o (.lst xs))) ∨
    ∃ (o : Obj) (its : Array Value) (n : Nat), K.lookup a = some o ∧ o.cls = .type "list" ∧ o.dict = none ∧ o.data = .seq its n ∧ its.size ≤ sizeLine ∧ Vals xs its.toList
theorem SqF.sq {K : PySem.W.Frag} {H : Hp} {a : Addr} {xs : List V} (h : SqF K H a xs) : SqL K H a xs := by
  rcases h with ⟨o, h⟩ | h
  · exact .inl (.inr ⟨o, h⟩)
  · exact .inr h

mutual
def Rep (K : PySem.W.Frag) (r : List Addr) (H : Hp) : D → V → Prop
  | .non, v => v = .non
  | .bl b, v => v = .bl b
  | .int i, v => v = .int i
  | .str s, v => v = .str s
  | .ty n, v => v = .ty n
  | .glo x, v => v = .ref (He.ga K x)
  | .ref n, v => ∃ a, r[n]? = some a ∧ v = .ref a
  | .tup l, v => ∃ a xs, v = .ref a ∧ SqT K H a xs ∧ Reps K r H l xs
  | .frl l, v => ∃ a xs, v = .ref a ∧ SqF K H a xs ∧ Reps K r H l xs
  | .fn f c q l us, v => v = .ref f ∧ c ∉ r ∧ H c = some (LamX.CodeO c q) ∧ Reps K r H l us
def Reps (K : PySem.W.Frag) (r : List Addr) (H : Hp) : List D → List V → Prop
  | [], vs => vs = []
  | d :: l, vs => ∃ v vr, vs = v :: vr ∧ Rep K r H d v ∧ Reps K r H l vr
end

def RepF (K : PySem.W.Frag) (r : List Addr) (H : Hp) {a : Type} : List (a × D) → List (a × V) → Prop
  | [], vs => vs = []
  | (k, d) :: l, vs => ∃ v vr, vs = (k, v) :: vr ∧ Rep K r H d v ∧ RepF K r H l vr

/-- what is kept from one moment to a later one -/
structure Kp (K : PySem.W.Frag) (r : List Addr) (H : Hp) (r' : List Addr) (H' : Hp) : Prop where
  pre : ∀ (n : Nat) (a : Addr), r[n]? = some a → r'[n]? = some a
  tup : ∀ a xs, SqT K H a xs → SqT K H' a xs
  frl : ∀ a xs, SqF K H a xs → SqF K H' a xs
  out : ∀ b o, b ∉ r → H b = some o → (∀ ps, o ≠ .tbl ps) → H' b = some o
  new : ∀ b, b ∈ r' → b ∈ r ∨ H b = none
  tb : ∀ b ps, H b = some (.tbl ps) → ∃ m, H' b = some (.tbl (ps ++ m))

section
variable {K : PySem.W.Frag} {r r' r2 : List Addr} {H H' H2 : Hp}
theorem Kp.refl : Kp K r H r H := ⟨fun _ _ h => h, fun _ _ h => h, fun _ _ h => h, fun _ _ _ h _ => h, fun _ h => .inl h, fun b ps h => ⟨#[], by rw [h]; simp⟩⟩
mutual
theorem Rep.mono3 (h1 : ∀ (n : Nat) (a : Addr), r[n]? = some a → r'[n]? = some a) (h2 : ∀ a xs, SqT K H a xs → SqT K H' a xs) (h3 : ∀ a xs, SqF K H a xs → SqF K H' a xs) (h4 : ∀ (c : Addr) (q : Str), c ∉ r → H c = some (LamX.CodeO c q) → c ∉ r' ∧ H' c = some (LamX.CodeO c q)) : ∀ {d : D} {v : V}, Rep K r H d v → Rep K r' H' d v
  | .non, _, h => h
  | .bl _, _, h => h
  | .int _, _, h => h
  | .str _, _, h => h
  | .ty _, _, h => h
  | .glo _, _, h => h
  | .ref _, _, ⟨a, h, e⟩ => ⟨a, h1 _ _ h, e⟩
  | .tup l, _, ⟨a, xs, e, h, q⟩ => ⟨a, xs, e, h2 _ _ h, Reps.mono3 h1 h2 h3 h4 q⟩
  | .frl l, _, ⟨a, xs, e, h, q⟩ => ⟨a, xs, e, h3 _ _ h, Reps.mono3 h1 h2 h3 h4 q⟩
  | .fn f c q l us, _, ⟨e, h, g, w⟩ => ⟨e, (h4 c q h g).1, (h4 c q h g).2, Reps.mono3 h1 h2 h3 h4 w⟩
theorem Reps.mono3 (h1 : ∀ (n : Nat) (a : Addr), r[n]? = some a → r'[n]? = some a) (h2 : ∀ a xs, SqT K H a xs → SqT K H' a xs) (h3 : ∀ a xs, SqF K H a xs → SqF K H' a xs) (h4 : ∀ (c : Addr) (q : Str), c ∉ r → H c = some (LamX.CodeO c q) → c ∉ r' ∧ H' c = some (LamX.CodeO c q)) : ∀ {l : List D} {vs : List V}, Reps K r H l vs → Reps K r' H' l vs
  | [], _, h => h
  | _ :: _, _, ⟨v, vr, e, h, q⟩ => ⟨v, vr, e, Rep.mono3 h1 h2 h3 h4 h, Reps.mono3 h1 h2 h3 h4 q⟩
end
theorem RepF.mono3 {a : Type} (h1 : ∀ (n : Nat) (a : Addr), r[n]? = some a → r'[n]? = some a) (h2 : ∀ a xs, SqT K H a xs → SqT K H' a xs) (h3 : ∀ a xs, SqF K H a xs → SqF K H' a xs) (h4 : ∀ (c : Addr) (q : Str), c ∉ r → H c = some (LamX.CodeO c q) → c ∉ r' ∧ H' c = some (LamX.CodeO c q)) : ∀ {l : List (a × D)} {vs : List (a × V)}, RepF K r H l vs → RepF K r' H' l vs
  | [], _, h => h
  | (_, _) :: _, _, ⟨v, vr, e, h, q⟩ => ⟨v, vr, e, Rep.mono3 h1 h2 h3 h4 h, RepF.mono3 h1 h2 h3 h4 q⟩
theorem Kp.code (k : Kp K r H r' H') (c : Addr) (q : Str) (h : c ∉ r) (e : H c = some (LamX.CodeO c q)) : c ∉ r' ∧ H' c = some (LamX.CodeO c q) :=
  ⟨fun z => (k.new c z).elim h (fun z => by rw [z] at e; cases e), k.out c _ h e fun ps => LamX.codeO_ne ps⟩
theorem Rep.mono (k : Kp K r H r' H') {d : D} {v : V} (h : Rep K r H d v) : Rep K r' H' d v := h.mono3 k.pre k.tup k.frl k.code
theorem Reps.mono (k : Kp K r H r' H') {d : List D} {v : List V} (h : Reps K r H d v) : Reps K r' H' d v := h.mono3 k.pre k.tup k.frl k.code
theorem RepF.mono {a : Type} (k : Kp K r H r' H') {l : List (a × D)} {vs : List (a × V)} (h : RepF K r H l vs) : RepF K r' H' l vs := h.mono3 k.pre k.tup k.frl k.code
theorem Reps.length : ∀ {l : List D} {vs : List V}, Reps K r H l vs → vs.length = l.length
  | [], _, h => by cases h; rfl
  | _ :: _, _, ⟨v, vr, e, h, q⟩ => by subst e; simp [Reps.length q]
theorem Reps.get : ∀ {l : List D} {vs : List V} {i : Nat} {d : D}, Reps K r H l vs → l[i]? = some d → ∃ v, vs[i]? = some v ∧ Rep K r H d v
  | [], _, i, d, h, e => by simp at e
  | x :: l, _, 0, d, ⟨v, vr, e, h, q⟩, e2 => by subst e; simp at e2; subst e2; exact ⟨v, rfl, h⟩
  | x :: l, _, i + 1, d, ⟨v, vr, e, h, q⟩, e2 => by
    subst e
    have := Reps.get (i := i) q (by simpa using e2)
    simpa using this
theorem Reps.get' : ∀ {l : List D} {vs : List V} {i : Nat} {v : V}, Reps K r H l vs → vs[i]? = some v → ∃ d, l[i]? = some d ∧ Rep K r H d v
  | [], _, i, d, h, e => by cases h; simp at e
  | x :: l, _, 0, d, ⟨v, vr, e, h, q⟩, e2 => by subst e; simp at e2; subst e2; exact ⟨x, rfl, h⟩
  | x :: l, _, i + 1, d, ⟨v, vr, e, h, q⟩, e2 => by
    subst e
    have := Reps.get' (i := i) q (by simpa using e2)
    simpa using this
theorem Reps.append : ∀ {l m : List D} {vs us : List V}, Reps K r H l vs → Reps K r H m us → Reps K r H (l ++ m) (vs ++ us)
  | [], _, _, _, h, q => by cases h; exact q
  | _ :: _, _, _, _, ⟨v, vr, e, h, q⟩, p => by subst e; exact ⟨v, _, rfl, h, Reps.append q p⟩
theorem Reps.one {d : D} {v : V} (h : Rep K r H d v) : Reps K r H [d] [v] := ⟨v, [], rfl, h, rfl⟩
theorem Reps.set : ∀ {l : List D} {vs : List V} (i : Nat) {d : D} {v : V}, Reps K r H l vs → Rep K r H d v → Reps K r H (l.set i d) (vs.set i v)
  | [], _, i, _, _, h, _ => by cases h; exact rfl
  | _ :: _, _, 0, _, _, ⟨v, vr, e, h, q⟩, p => by subst e; exact ⟨_, _, rfl, p, q⟩
  | _ :: _, _, i + 1, _, _, ⟨v, vr, e, h, q⟩, p => by subst e; exact ⟨_, _, rfl, h, Reps.set i q p⟩
theorem Reps.take : ∀ {l : List D} {vs : List V} (i : Nat), Reps K r H l vs → Reps K r H (l.take i) (vs.take i)
  | [], _, i, h => by cases h; simp [Reps]
  | _ :: _, _, 0, _ => rfl
  | _ :: _, _, i + 1, ⟨v, vr, e, h, q⟩ => by subst e; exact ⟨_, _, rfl, h, Reps.take i q⟩
theorem Reps.drop : ∀ {l : List D} {vs : List V} (i : Nat), Reps K r H l vs → Reps K r H (l.drop i) (vs.drop i)
  | [], _, i, h => by cases h; simp [Reps]
  | _ :: _, _, 0, h => h
  | _ :: _, _, i + 1, ⟨v, vr, e, h, q⟩ => by subst e; exact Reps.drop i q
theorem Reps.reverse : ∀ {l : List D} {vs : List V}, Reps K r H l vs → Reps K r H l.reverse vs.reverse
  | [], _, h => by cases h; exact rfl
  | _ :: _, _, ⟨v, vr, e, h, q⟩ => by
    subst e
    rw [List.reverse_cons, List.reverse_cons]
    exact (Reps.reverse q).append (Reps.one h)
theorem Reps.replicate (n : Nat) {d : D} {v : V} (h : Rep K r H d v) : Reps K r H (List.replicate n d) (List.replicate n v) := by
  induction n with
  | zero => exact rfl
  | succ n ih => exact ⟨v, _, rfl, h, ih⟩
theorem Reps.flat {l : List D} {vs : List V} (n : Nat) (h : Reps K r H l vs) : Reps K r H (List.replicate n l).flatten (List.replicate n vs).flatten := by
  induction n with
  | zero => exact rfl
  | succ n ih => simpa [List.replicate_succ] using h.append ih
theorem Reps.ints : ∀ (ns : List Int), Reps K r H (ns.map D.int) (ns.map V.int)
  | [] => rfl
  | n :: ns => ⟨.int n, _, rfl, rfl, Reps.ints ns⟩
theorem Reps.strs : ∀ (ns : List Str), Reps K r H (ns.map D.str) (ns.map V.str)
  | [] => rfl
  | n :: ns => ⟨.str n, _, rfl, rfl, Reps.strs ns⟩
theorem Reps.ints_of : ∀ {ns : List Int} {vs : List V}, Reps K r H (ns.map D.int) vs → vs = ns.map V.int
  | [], _, h => h
  | n :: ns, _, ⟨v, vr, e, h, q⟩ => by
    subst e
    have h' : v = .int n := h
    rw [h', Reps.ints_of q, List.map_cons]
theorem Reps.strs_of : ∀ {ns : List Str} {vs : List V}, Reps K r H (ns.map D.str) vs → vs = ns.map V.str
  | [], _, h => h
  | n :: ns, _, ⟨v, vr, e, h, q⟩ => by
    subst e
    have h' : v = .str n := h
    rw [h', Reps.strs_of q, List.map_cons]
theorem Reps.bls_of : ∀ {ns : List Bool} {vs : List V}, Reps K r H (ns.map D.bl) vs → vs = ns.map V.bl
  | [], _, h => h
  | n :: ns, _, ⟨v, vr, e, h, q⟩ => by
    subst e
    have h' : v = .bl n := h
    rw [h', Reps.bls_of q, List.map_cons]
end

/-- one thing of the heap of data, at its address -/
def ORep (K : PySem.W.Frag) (r : List Addr) (H : Hp) (a : Addr) : O → Prop
  | .lst xs => ∃ vs, H a = some (.lst vs) ∧ Reps K r H xs vs
  | .dct kvs => ∃ vs, H a = some (.dK vs) ∧ RepF K r H kvs vs
  | .dcl kvs => ∃ vs o, H a = some (.frz o (.dK vs)) ∧ RepF K r H kvs vs
  | .ins C fs => ∃ dx vs, H a = some (.ins (He.ga K C) dx vs) ∧ dx ∉ r ∧ H dx = some (.own a) ∧ RepF K r H fs vs
  | .exc C fs => ∃ dx vs, H a = some (.ext fun h => ∃ (oe : Obj) (gs : Array Value), h.get? a = some oe ∧ Zc (.ref (He.ga K C)) dx oe ∧ oe.data = .fields gs) ∧ (∀ d, dx = some d → d ∉ r ∧ H d = some (.xd vs)) ∧ (dx = none → vs = []) ∧ RepF K r H fs vs
  | .raw h => H a = some h ∧ (∀ xs, h ≠ .tup xs) ∧ (∀ o u, h ≠ .frz o u) ∧ (∀ ps, h ≠ .tbl ps)

/-- the name of the lambdas whose code objects stand in the table at P, by the written part -/
def tqOne (P : Addr) (p : Addr × Obj) : Option Str := match p.2.data with
  | .fields us => if us[11]? = some (Value.ref P) then (match us[1]? with
    | some (Value.str q _) => some q
    | _ => none) else none
  | _ => none
def tq (K : PySem.W.Frag) (P : Addr) : Str := match K.findSome? (tqOne P) with
  | some q => q ++ ".<locals>." ++ "<lambda>"
  | none => ""
/-- a table: each code object that it tells bears the name q -/
def TabR (r : List Addr) (H : Hp) (P : Addr) (q : Str) : Prop := ∃ ps : Array Value, H P = some (.tbl ps) ∧ TriplesOk ps.toList ∧ ∀ (pos : Pos) (cv : Value), codeAmong pos ps.toList = some cv → ∃ c, cv = .ref c ∧ c ∉ r ∧ H c = some (LamX.CodeO c q)
theorem TabR.keep {r r' : List Addr} {H H' : Hp} {P : Addr} {q : Str} (t : TabR r H P q) (e : H' P = H P) (h : ∀ c, c ∉ r → H c = some (LamX.CodeO c q) → c ∉ r' ∧ H' c = some (LamX.CodeO c q)) : TabR r' H' P q := by
  obtain ⟨ps, h1, h2, h3⟩ := t
  refine ⟨ps, e.trans h1, h2, fun pos cv hc => ?_⟩
  obtain ⟨c, e1, e2, e3⟩ := h3 pos cv hc
  exact ⟨c, e1, (h c e2 e3).1, (h c e2 e3).2⟩
/-- the defs that make lambdas, in one law or another -/
def lamQs : List Str := ["law", "_law_asked_right", "_law_refused_right", "_law_right", "_law_names_right", "_law_pages_right", "_law_fifty_right", "_law_changed_by", "_law_deed", "_law_trial_right", "_law_rest_same"]
/-- the table that a code object of one of these names, if it is no part of the written text -/
def tabOne (K : PySem.W.Frag) (p : Addr × Obj) : Option Addr := match p.2.data with
  | .fields us => (match us[1]?, us[11]? with
    | some (Value.str q _), some (Value.ref P) => if q ∈ lamQs ∧ (K.lookup P).isNone then some P else none
    | _, _ => none)
  | _ => none
def tabsOf (K : PySem.W.Frag) : List Addr := K.filterMap (tabOne K)
structure HRep (K : PySem.W.Frag) (r : List Addr) (H : Hp) (ah : AH) : Prop where
  len : r.length = ah.length
  nd : r.Nodup
  ob : ∀ (n : Nat) (a : Addr) (o : O), r[n]? = some a → ah[n]? = some o → ORep K r H a o
  tb : ∀ (b : Addr) (ps : Array Value), H b = some (.tbl ps) → TabR r H b (tq K b)
  te : ∀ b ∈ tabsOf K, ∃ ps, H b = some (.tbl ps)
theorem te_of {K : PySem.W.Frag} {H H' : Hp} (h : ∀ b ∈ tabsOf K, ∃ ps, H b = some (.tbl ps)) (k : ∀ b ps, H b = some (.tbl ps) → ∃ m, H' b = some (.tbl (ps ++ m))) : ∀ b ∈ tabsOf K, ∃ ps, H' b = some (.tbl ps) := fun b hb => by
  obtain ⟨ps, e⟩ := h b hb
  obtain ⟨m, e'⟩ := k b ps e
  exact ⟨_, e'⟩

section
variable {K : PySem.W.Frag} {r r' r2 : List Addr} {H H' H2 : Hp} {ah : AH}
theorem ORep.has {a : Addr} {o : O} (h : ORep K r H a o) : ∃ u, H a = some u ∧ (∀ xs, u ≠ .tup xs) ∧ (∀ o xs, u ≠ .frz o (.lst xs)) ∧ (∀ o xs, u ≠ .frz o (.tup xs)) ∧ (∀ ps, u ≠ .tbl ps) := by
  cases o with
  | lst xs => obtain ⟨vs, e, _⟩ := h; exact ⟨_, e, by simp, by simp, by simp, by simp⟩
  | dct xs => obtain ⟨vs, e, _⟩ := h; exact ⟨_, e, by simp, by simp, by simp, by simp⟩
  | dcl xs => obtain ⟨vs, o, e, _⟩ := h; exact ⟨_, e, by simp, by simp, by simp, by simp⟩
  | ins C xs => obtain ⟨dx, vs, e, _⟩ := h; exact ⟨_, e, by simp, by simp, by simp, by simp⟩
  | exc C xs => obtain ⟨dx, vs, e, _⟩ := h; exact ⟨_, e, by simp, by simp, by simp, by simp⟩
  | raw u => obtain ⟨e, h1, h2, h3⟩ := h; exact ⟨_, e, h1, fun _ _ => h2 _ _, fun _ _ => h2 _ _, h3⟩
theorem HRep.at_ (h : HRep K r H ah) {n : Nat} {a : Addr} (e : r[n]? = some a) : ∃ o, ah[n]? = some o ∧ ORep K r H a o := by
  obtain ⟨h1, _⟩ := List.getElem?_eq_some_iff.mp e
  have h2 : n < ah.length := by rw [← h.len]; exact h1
  exact ⟨ah[n], List.getElem?_eq_getElem h2, h.ob n a _ e (List.getElem?_eq_getElem h2)⟩
theorem HRep.adr (h : HRep K r H ah) {n : Nat} {o : O} (e : ah[n]? = some o) : ∃ a, r[n]? = some a ∧ ORep K r H a o := by
  obtain ⟨h1, _⟩ := List.getElem?_eq_some_iff.mp e
  have h2 : n < r.length := by rw [h.len]; exact h1
  exact ⟨r[n], List.getElem?_eq_getElem h2, h.ob n _ o (List.getElem?_eq_getElem h2) e⟩
theorem HRep.mem (h : HRep K r H ah) {a : Addr} (e : a ∈ r) : ∃ u, H a = some u ∧ (∀ xs, u ≠ .tup xs) ∧ (∀ o xs, u ≠ .frz o (.lst xs)) ∧ (∀ o xs, u ≠ .frz o (.tup xs)) ∧ (∀ ps, u ≠ .tbl ps) := by
  obtain ⟨n, hn⟩ := List.mem_iff_getElem?.mp e
  obtain ⟨o, _, q⟩ := h.at_ hn
  exact q.has
theorem HRep.fresh (h : HRep K r H ah) {p : Addr} (e : H p = none) : p ∉ r := fun z => by
  obtain ⟨u, e2, _⟩ := h.mem z
  rw [e] at e2; cases e2
theorem Kp.trans (h : Kp K r H r' H') (h2 : Kp K r' H' r2 H2) : Kp K r H r2 H2 := by
  refine ⟨fun n a e => h2.pre n a (h.pre n a e), fun a xs e => h2.tup a xs (h.tup a xs e), fun a xs e => h2.frl a xs (h.frl a xs e), fun b o nb e t => ?_, fun b hb => ?_, fun b ps e => ?_⟩
  · refine h2.out b o (fun z => ?_) (h.out b o nb e t) t
    rcases h.new b z with q | q
    · exact nb q
    · rw [e] at q; cases q
  · rcases h2.new b hb with q | q
    · exact h.new b q
    · by_cases hr' : b ∈ r
      · exact .inl hr'
      · refine .inr ?_
        cases e : H b with
        | none => rfl
        | some o =>
          by_cases t : ∃ ps, o = .tbl ps
          · obtain ⟨ps, rfl⟩ := t
            obtain ⟨m, z⟩ := h.tb b ps e
            rw [z] at q; cases q
          · rw [h.out b o hr' e (fun ps z => t ⟨ps, z⟩)] at q; cases q
  · obtain ⟨m, z⟩ := h.tb b ps e
    obtain ⟨m2, z2⟩ := h2.tb b _ z
    exact ⟨m ++ m2, by rw [z2, Array.append_assoc]⟩
end

/-! ### the heap grows, is written -/
section
variable {K : PySem.W.Frag} {r r' r2 : List Addr} {H H' H2 : Hp} {ah : AH} {p a : Addr} {u : HO} {o : O} {n : Nat}
theorem sqT_new (hp : H p = none) {b : Addr} {xs : List V} (h : SqT K H b xs) : SqT K (upd H p u) b xs := by
  rcases h with h | h
  · refine .inl ?_
    rcases h with h | ⟨o, h⟩
    · exact .inl (by rw [upd_ne (ne_of_none h hp)]; exact h)
    · exact .inr ⟨o, by rw [upd_ne (ne_of_none h hp)]; exact h⟩
  · exact .inr h
theorem sqF_new (hp : H p = none) {b : Addr} {xs : List V} (h : SqF K H b xs) : SqF K (upd H p u) b xs := by
  rcases h with ⟨o, h⟩ | h
  · exact .inl ⟨o, by rw [upd_ne (ne_of_none h hp)]; exact h⟩
  · exact .inr h
theorem Kp.new_ (hp : H p = none) : Kp K r H r (upd H p u) :=
  ⟨fun _ _ h => h, fun _ _ h => sqT_new hp h, fun _ _ h => sqF_new hp h, fun b o _ e _ => by rw [upd_ne (ne_of_none e hp)]; exact e, fun _ h => .inl h, fun b ps e => ⟨#[], by rw [upd_ne (ne_of_none e hp), e]; simp⟩⟩
theorem Kp.push (hp : H p = none) : Kp K r H (r ++ [p]) (upd H p u) :=
  ⟨fun n a h => by rw [List.getElem?_append_left (List.getElem?_eq_some_iff.mp h).1]; exact h, fun _ _ h => sqT_new hp h, fun _ _ h => sqF_new hp h, fun b o _ e _ => by rw [upd_ne (ne_of_none e hp)]; exact e,
    fun b h => (List.mem_append.mp h).imp id fun z => by rw [List.mem_singleton.mp z]; exact hp, fun b ps e => ⟨#[], by rw [upd_ne (ne_of_none e hp), e]; simp⟩⟩
theorem Kp.write (h : HRep K r H ah) (ha : a ∈ r) : Kp K r H r (upd H a u) := by
  obtain ⟨w, e, n1, n2, n3, n4⟩ := h.mem ha
  refine ⟨fun _ _ h => h, fun b xs q => ?_, fun b xs q => ?_, fun b o nb e _ => ?_, fun _ h => .inl h, fun b ps q => ⟨#[], ?_⟩⟩
  · rcases q with q | q
    · refine .inl ?_
      rcases q with q | ⟨o, q⟩
      · exact .inl (by rw [upd_ne (fun z => by rw [z, e] at q; exact n1 xs (Option.some.inj q))]; exact q)
      · exact .inr ⟨o, by rw [upd_ne (fun z => by rw [z, e] at q; exact n3 o xs (Option.some.inj q))]; exact q⟩
    · exact .inr q
  · rcases q with ⟨o, q⟩ | q
    · exact .inl ⟨o, by rw [upd_ne (fun z => by rw [z, e] at q; exact n2 o xs (Option.some.inj q))]; exact q⟩
    · exact .inr q
  · rw [upd_ne (fun z => nb (by rw [z]; exact ha))]; exact e
  · rw [upd_ne (fun z => by rw [z, e] at q; exact n4 ps (Option.some.inj q)), q]; simp
theorem ORep.keep (k : Kp K r H r' H') (e : H' a = H a) (h : ORep K r H a o) : ORep K r' H' a o := by
  have no : ∀ d u, d ∉ r → H d = some u → d ∉ r' := fun d u h1 h2 z => by
    rcases k.new d z with q | q
    · exact h1 q
    · rw [h2] at q; cases q
  cases o with
  | lst xs => obtain ⟨vs, q, w⟩ := h; exact ⟨vs, e.trans q, w.mono k⟩
  | dct xs => obtain ⟨vs, q, w⟩ := h; exact ⟨vs, e.trans q, w.mono k⟩
  | dcl xs => obtain ⟨vs, o, q, w⟩ := h; exact ⟨vs, o, e.trans q, w.mono k⟩
  | ins C xs => obtain ⟨dx, vs, q, h1, h2, w⟩ := h; exact ⟨dx, vs, e.trans q, no dx _ h1 h2, k.out dx _ h1 h2 (by simp), w.mono k⟩
  | exc C xs =>
    obtain ⟨dx, vs, q, h1, h2, w⟩ := h
    exact ⟨dx, vs, e.trans q, fun d hd => ⟨no d _ (h1 d hd).1 (h1 d hd).2, k.out d _ (h1 d hd).1 (h1 d hd).2 (by simp)⟩, h2, w.mono k⟩
  | raw u => obtain ⟨q, w⟩ := h; exact ⟨e.trans q, w⟩
theorem HRep.new_ (h : HRep K r H ah) (hp : H p = none) (nt : ∀ ps, u ≠ .tbl ps := by intro _ z; cases z) : HRep K r (upd H p u) ah :=
  ⟨h.len, h.nd, fun n a o e1 e2 => (h.ob n a o e1 e2).keep (Kp.new_ hp) (upd_ne (fun z => h.fresh hp (z ▸ List.mem_of_getElem? e1))), fun b ps e => by
    by_cases hb : b = p
    · subst hb; rw [upd_same] at e; exact (nt ps (Option.some.inj e)).elim
    · rw [upd_ne hb] at e
      exact (h.tb b ps e).keep (upd_ne hb) fun c h1 h2 => ⟨h1, by rw [upd_ne (ne_of_none h2 hp)]; exact h2⟩, te_of h.te (Kp.new_ (K := K) (r := r) hp).tb⟩
theorem HRep.push (h : HRep K r H ah) (hp : H p = none) (q : ORep K (r ++ [p]) (upd H p u) p o) : HRep K (r ++ [p]) (upd H p u) (ah ++ [o]) := by
  refine ⟨by simp [h.len], ?_, fun n a o' e1 e2 => ?_, fun b ps e => ?_, te_of h.te (Kp.push (K := K) (r := r) hp).tb⟩
  rotate_left 2
  · obtain ⟨w, hw, _, _, _, nt⟩ := q.has
    by_cases hb : b = p
    · subst hb; rw [hw] at e; exact (nt ps (Option.some.inj e)).elim
    · rw [upd_ne hb] at e
      refine (h.tb b ps e).keep (upd_ne hb) fun c h1 h2 => ⟨fun z => ?_, by rw [upd_ne (ne_of_none h2 hp)]; exact h2⟩
      rcases List.mem_append.mp z with z | z
      · exact h1 z
      · rw [List.mem_singleton.mp z, hp] at h2; cases h2
  · rw [List.nodup_append]
    exact ⟨h.nd, by simp, fun x hx y hy z => h.fresh hp (by rw [← List.mem_singleton.mp hy, ← z]; exact hx)⟩
  · by_cases hn : n < r.length
    · rw [List.getElem?_append_left hn] at e1
      rw [List.getElem?_append_left (by rw [← h.len]; exact hn)] at e2
      exact (h.ob n a o' e1 e2).keep (Kp.push hp) (upd_ne (fun z => h.fresh hp (z ▸ List.mem_of_getElem? e1)))
    · rw [List.getElem?_append_right (by omega)] at e1
      rw [List.getElem?_append_right (by rw [← h.len]; omega)] at e2
      rw [h.len] at e1
      cases m : n - ah.length with
      | zero => rw [m] at e1 e2; cases e1; cases e2; exact q
      | succ k => rw [m] at e1; simp at e1
theorem HRep.set (h : HRep K r H ah) (ha : r[n]? = some a) (q : ORep K r (upd H a u) a o) : HRep K r (upd H a u) (ah.set n o) := by
  refine ⟨by simp [h.len], h.nd, fun m b o' e1 e2 => ?_, fun b ps e => ?_, te_of h.te (Kp.write h (List.mem_of_getElem? ha)).tb⟩
  rotate_left
  · obtain ⟨w, hw, _, _, _, nt⟩ := q.has
    by_cases hb : b = a
    · subst hb; rw [hw] at e; exact (nt ps (Option.some.inj e)).elim
    · rw [upd_ne hb] at e
      exact (h.tb b ps e).keep (upd_ne hb) fun c h1 h2 => ⟨h1, by rw [upd_ne (fun z : c = a => h1 (by rw [z]; exact List.mem_of_getElem? ha))]; exact h2⟩
  by_cases hm : m = n
  · subst hm
    rw [ha] at e1; cases e1
    have : m < ah.length := by rw [← h.len]; exact (List.getElem?_eq_some_iff.mp ha).1
    rw [List.getElem?_set_self this] at e2; cases e2
    exact q
  · rw [List.getElem?_set_ne (Ne.symm hm)] at e2
    have nb : b ≠ a := fun z => hm (by
      subst z
      obtain ⟨h1, x1⟩ := List.getElem?_eq_some_iff.mp e1
      obtain ⟨h2, x2⟩ := List.getElem?_eq_some_iff.mp ha
      exact (List.getElem_inj h.nd).mp (x1.trans x2.symm))
    exact (h.ob m b o' e1 e2).keep (Kp.write h (List.mem_of_getElem? ha)) (upd_ne nb)
end

/-! ### slots -/
abbrev En := List (Option D)
def gt : En → Nat → Option D
  | [], _ => none
  | o :: _, 0 => o
  | _ :: l, n + 1 => gt l n
def st : En → Nat → D → En
  | [], _, _ => []
  | _ :: l, 0, d => some d :: l
  | o :: l, n + 1, d => o :: st l n d
def no : En → Nat → En
  | [], _ => []
  | _ :: l, 0 => none :: l
  | o :: l, n + 1 => o :: no l n
def nos : En → List Nat → En
  | e, [] => e
  | e, i :: l => no (nos e l) i
def ERep (K : PySem.W.Frag) (r : List Addr) (H : Hp) : En → L2.St → Prop
  | [], s => s = []
  | o :: l, s => ∃ u t, s = u :: t ∧ (∀ d, o = some d → ∃ v, u = some v ∧ Rep K r H d v) ∧ ERep K r H l t
section
variable {K : PySem.W.Frag} {r r' r2 : List Addr} {H H' H2 : Hp} {ah : AH}
theorem ERep.get : ∀ {env : En} {s : L2.St} {i : Nat} {d : D}, ERep K r H env s → gt env i = some d → ∃ v, s[i]? = some (some v) ∧ Rep K r H d v
  | [], _, _, _, _, e => by cases e
  | o :: l, _, 0, d, ⟨u, t, e, h, _⟩, e2 => by
    subst e
    obtain ⟨v, e3, q⟩ := h d e2
    exact ⟨v, by rw [e3]; rfl, q⟩
  | o :: l, _, i + 1, d, ⟨u, t, e, h, q⟩, e2 => by
    subst e
    obtain ⟨v, e3, p⟩ := ERep.get (i := i) q e2
    exact ⟨v, by simpa using e3, p⟩
theorem ERep.set : ∀ {env : En} {s : L2.St} (i : Nat) {d : D} {v : V}, ERep K r H env s → Rep K r H d v → ERep K r H (Z.st env i d) (s.set i (some v))
  | [], _, _, _, _, h, _ => by cases h; exact rfl
  | o :: l, _, 0, d, v, ⟨u, t, e, h, q⟩, p => by
    subst e
    exact ⟨some v, t, rfl, fun d' e' => by cases e'; exact ⟨v, rfl, p⟩, q⟩
  | o :: l, _, i + 1, d, v, ⟨u, t, e, h, q⟩, p => by
    subst e
    exact ⟨u, _, rfl, h, ERep.set i q p⟩
theorem ERep.no : ∀ {env : En} {s : L2.St} (i : Nat) (x : Option V), ERep K r H env s → ERep K r H (Z.no env i) (s.set i x)
  | [], _, _, _, h => by cases h; exact rfl
  | o :: l, _, 0, x, ⟨u, t, e, h, q⟩ => by
    subst e
    exact ⟨x, t, rfl, fun d' e' => (nomatch e'), q⟩
  | o :: l, _, i + 1, x, ⟨u, t, e, h, q⟩ => by
    subst e
    exact ⟨u, _, rfl, h, ERep.no i x q⟩
theorem ERep.wipe {env : En} {s : L2.St} (h : ERep K r H env s) : ∀ l : List Nat, ERep K r H (nos env l) (L2.wipe s l)
  | [] => h
  | i :: l => by unfold nos L2.wipe; exact (ERep.wipe h l).no i none
theorem ERep.mono (k : Kp K r H r' H') : ∀ {env : En} {s : L2.St}, ERep K r H env s → ERep K r' H' env s
  | [], _, h => h
  | o :: l, _, ⟨u, t, e, h, q⟩ => ⟨u, t, e, fun d e => by obtain ⟨v, e1, q⟩ := h d e; exact ⟨v, e1, q.mono k⟩, ERep.mono k q⟩
theorem ERep.start : ∀ {ds : List D} {vs : List V} (m : Nat), Reps K r H ds vs → ERep K r H (ds.map some ++ List.replicate m none) (vs.map some ++ List.replicate m none)
  | [], _, m, h => by
    cases h
    show ERep K r H (List.replicate m none) (List.replicate m none)
    induction m with
    | zero => exact rfl
    | succ m ih => exact ⟨none, _, rfl, fun d e => (nomatch e), ih⟩
  | d :: ds, _, m, ⟨v, vr, e, h, q⟩ => by
    subst e
    exact ⟨some v, _, rfl, fun d' e => by cases e; exact ⟨v, rfl, h⟩, ERep.start m q⟩
end

/-! ### the judgements -/
/-- an exception: its class and fields -/
abbrev XD := Str × List (Str × D)
abbrev QE := D → AH → Prop
abbrev QX := XD → AH → Prop
abbrev QXS := XD → En → AH → Prop
abbrev WE := En → AH → QE → QX → Prop
abbrev WT := En → AH → (Bool → AH → Prop) → QX → Prop
abbrev WA := En → AH → (List D → AH → Prop) → QX → Prop
structure DEnds where
  nx : En → AH → Prop
  rt : QE
  bk : En → AH → Prop := fun _ _ => False
  ct : En → AH → Prop := fun _ _ => False
abbrev WS := En → AH → DEnds → QXS → Prop
abbrev DSp := List D → AH → QE → QX → Prop
def XRep (K : PySem.W.Frag) (r : List Addr) (H : Hp) (fs : List (Str × D)) (dx : Option Addr) : Prop :=
  (∃ d vs, dx = some d ∧ d ∉ r ∧ H d = some (.xd vs) ∧ RepF K r H fs vs) ∨ (dx = none ∧ fs = [])
def Cn (K : PySem.W.Frag) (r : List Addr) (H : Hp) (q : QE) (Q : VK) : Prop := ∀ d ah, q d ah → ∀ r' H' v, Kp K r H r' H' → HRep K r' H' ah → Rep K r' H' d v → Q v H'
def CnT (K : PySem.W.Frag) (r : List Addr) (H : Hp) (q : Bool → AH → Prop) (Q : Bool → Hp → Prop) : Prop := ∀ d ah, q d ah → ∀ r' H', Kp K r H r' H' → HRep K r' H' ah → Q d H'
def CnA (K : PySem.W.Frag) (r : List Addr) (H : Hp) (q : List D → AH → Prop) (Q : List V → Hp → Prop) : Prop := ∀ d ah, q d ah → ∀ r' H' v, Kp K r H r' H' → HRep K r' H' ah → Reps K r' H' d v → Q v H'
def CnX (K : PySem.W.Frag) (r : List Addr) (H : Hp) (x : QX) (E : XK) : Prop := ∀ C fs ah, x (C, fs) ah → ∀ r' H' dx, Kp K r H r' H' → HRep K r' H' ah → XRep K r' H' fs dx → E (.ref (He.ga K C)) dx H'
def CnS (K : PySem.W.Frag) (r : List Addr) (H : Hp) (q : En → AH → Prop) (Q : L2.St → Hp → Prop) : Prop := ∀ env ah, q env ah → ∀ r' H' s, Kp K r H r' H' → HRep K r' H' ah → ERep K r' H' env s → Q s H'
def CnXS (K : PySem.W.Frag) (r : List Addr) (H : Hp) (x : QXS) (W : WX) : Prop := ∀ C fs env ah, x (C, fs) env ah → ∀ r' H' s dx, Kp K r H r' H' → HRep K r' H' ah → ERep K r' H' env s → XRep K r' H' fs dx → W (.ref (He.ga K C)) dx s H'
section
variable {K : PySem.W.Frag} {r r' : List Addr} {H H' : Hp}
theorem Cn.step (k : Kp K r H r' H') {q : QE} {Q : VK} (h : Cn K r H q Q) : Cn K r' H' q Q := fun d ah a r2 H2 v k2 => h d ah a r2 H2 v (k.trans k2)
theorem CnT.step (k : Kp K r H r' H') {q : Bool → AH → Prop} {Q : Bool → Hp → Prop} (h : CnT K r H q Q) : CnT K r' H' q Q := fun d ah a r2 H2 k2 => h d ah a r2 H2 (k.trans k2)
theorem CnA.step (k : Kp K r H r' H') {q : List D → AH → Prop} {Q : List V → Hp → Prop} (h : CnA K r H q Q) : CnA K r' H' q Q := fun d ah a r2 H2 v k2 => h d ah a r2 H2 v (k.trans k2)
theorem CnX.step (k : Kp K r H r' H') {x : QX} {E : XK} (h : CnX K r H x E) : CnX K r' H' x E := fun C fs ah a r2 H2 v k2 => h C fs ah a r2 H2 v (k.trans k2)
theorem CnS.step (k : Kp K r H r' H') {q : En → AH → Prop} {Q : L2.St → Hp → Prop} (h : CnS K r H q Q) : CnS K r' H' q Q := fun d ah a r2 H2 v k2 => h d ah a r2 H2 v (k.trans k2)
theorem CnXS.step (k : Kp K r H r' H') {x : QXS} {W : WX} (h : CnXS K r H x W) : CnXS K r' H' x W := fun C fs e ah a r2 H2 s v k2 => h C fs e ah a r2 H2 s v (k.trans k2)
theorem Cn.here {q : QE} {Q : VK} {d : D} {ah : AH} {v : V} (h : Cn K r H q Q) (a : q d ah) (hr : HRep K r H ah) (e : Rep K r H d v) : Q v H := h d ah a r H v Kp.refl hr e
end
def LE (K : PySem.W.Frag) (w : WE) (W : WX) : TE := fun s H Q => ∃ r env ah q x, ERep K r H env s ∧ HRep K r H ah ∧ w env ah q x ∧ Cn K r H q Q ∧ CnX K r H x (fun c d H' => W c d s H')
def LT (K : PySem.W.Frag) (w : WT) (W : WX) : TT := fun s H Q => ∃ r env ah q x, ERep K r H env s ∧ HRep K r H ah ∧ w env ah q x ∧ CnT K r H q Q ∧ CnX K r H x (fun c d H' => W c d s H')
def LA (K : PySem.W.Frag) (w : WA) (W : WX) : TA := fun s H Q => ∃ r env ah q x, ERep K r H env s ∧ HRep K r H ah ∧ w env ah q x ∧ CnA K r H q Q ∧ CnX K r H x (fun c d H' => W c d s H')
structure CnD (K : PySem.W.Frag) (r : List Addr) (H : Hp) (dn : DEnds) (Dn : Ends) : Prop where
  nx : CnS K r H dn.nx Dn.nx
  rt : Cn K r H dn.rt Dn.rt
  bk : CnS K r H dn.bk Dn.bk
  ct : CnS K r H dn.ct Dn.ct
theorem CnD.step {K : PySem.W.Frag} {r r' : List Addr} {H H' : Hp} (k : Kp K r H r' H') {dn : DEnds} {Dn : Ends} (h : CnD K r H dn Dn) : CnD K r' H' dn Dn := ⟨h.nx.step k, h.rt.step k, h.bk.step k, h.ct.step k⟩
def LS (K : PySem.W.Frag) (w : WS) (W : WX) : TS := fun Dn s H => ∃ r env ah dn x, ERep K r H env s ∧ HRep K r H ah ∧ w env ah dn x ∧ CnD K r H dn Dn ∧ CnXS K r H x W
def DE (X : Cx) (e : Expr) (w : WE) : Prop := ∀ W, Takes X W → PE X e (LE X.K w W)
def DT (X : Cx) (e : Expr) (w : WT) : Prop := ∀ W, Takes X W → PT X e (LT X.K w W)
def DWt (X : Cx) (e : Expr) (w : WT) : Prop := ∀ W, Takes X W → PW X e (LT X.K w W)
def DA (X : Cx) (es : List Expr) (w : WA) : Prop := ∀ W, Takes X W → PA X es (LA X.K w W)
def DS (X : Cx) (st : Stmt) (w : WS) : Prop := ∀ W, Takes X W → PS X st (LS X.K w W)
def DSs (X : Cx) (st : List Stmt) (w : WS) : Prop := ∀ W, Takes X W → PSs X st (LS X.K w W)
theorem _root_.L2.PE.weak {X : Cx} {e : Expr} {t t' : TE} (h : PE X e t) (i : ∀ s H Q, t' s H Q → t s H Q) : PE X e t' := ⟨fun pins s σ H Q I q => h.run pins s σ H Q I (i σ H Q q)⟩
theorem _root_.L2.PT.weak {X : Cx} {e : Expr} {t t' : TT} (h : PT X e t) (i : ∀ s H Q, t' s H Q → t s H Q) : PT X e t' := ⟨fun pins s σ H Q I q => h.run pins s σ H Q I (i σ H Q q)⟩
theorem _root_.L2.PW.weak {X : Cx} {e : Expr} {t t' : TT} (h : PW X e t) (i : ∀ s H Q, t' s H Q → t s H Q) : PW X e t' := ⟨fun wh pins s σ H Q I q => h.run wh pins s σ H Q I (i σ H Q q)⟩
theorem _root_.L2.PA.weak {X : Cx} {e : List Expr} {t t' : TA} (h : PA X e t) (i : ∀ s H Q, t' s H Q → t s H Q) : PA X e t' := ⟨fun pos pins s σ H Q I q => h.run pos pins s σ H Q I (i σ H Q q)⟩
theorem _root_.L2.PS.weak {X : Cx} {e : Stmt} {t t' : TS} (h : PS X e t) (i : ∀ D s H, t' D s H → t D s H) : PS X e t' := ⟨fun pins s σ H Q I q => h.run pins s σ H Q I (i Q σ H q)⟩
theorem _root_.L2.PSs.weak {X : Cx} {e : List Stmt} {t t' : TS} (h : PSs X e t) (i : ∀ D s H, t' D s H → t D s H) : PSs X e t' := ⟨fun pins s σ H Q I q => h.run pins s σ H Q I (i Q σ H q)⟩
end Z
namespace Z
open PySem PySem.Spec PyProof.Rows L2
section
variable {X : Cx} {K : PySem.W.Frag} {pos : Pos} {a b c e : Expr} {wa wb wc we : WE} {ta tb tc : WT}

/-! ### names and constants -/
def wVar (i : Nat) : WE := fun env ah q _ => match gt env i with
  | some d => q d ah
  | none => False
theorem de_var {i : Nat} {x : Str} (hN : X.N[i]? = some x) (hv : Vis X.env.scope x) (hd : (x == ("__debug__" : Str)) = false := by decide) (hcd : (x == ("__classdict__" : Str)) = false := by decide) : DE X (.Name x pos) (wVar i) := fun W _ =>
  (pe_var hN hv hd hcd).weak fun s H Q ⟨r, env, ah, q, x, he, hh, hw, hq, hx⟩ => by
    unfold wVar at hw
    cases g : gt env i with
    | none => rw [g] at hw; exact hw.elim
    | some d =>
      rw [g] at hw
      obtain ⟨v, e1, p⟩ := he.get g
      exact ⟨v, e1, hq.here hw hh p⟩
def wC (d : D) : WE := fun _ ah q _ => q d ah
theorem de_c {d : D} {v : V} (h : PE X e (tC v)) (hd : ∀ r H, Rep X.K r H d v) : DE X e (wC d) := fun W _ =>
  h.weak fun s H Q ⟨r, env, ah, q, x, he, hh, hw, hq, hx⟩ => hq.here hw hh (hd r H)
theorem de_int {i : Int} {j : Nat} : DE X (.Constant (.int i) j pos) (wC (.int i)) := de_c pe_int fun _ _ => rfl
theorem de_bl {i : Bool} {j : Nat} : DE X (.Constant (.bool i) j pos) (wC (.bl i)) := de_c pe_bl fun _ _ => rfl
theorem de_str {i : Str} {j : Nat} : DE X (.Constant (.str i) j pos) (wC (.str i)) := de_c pe_str fun _ _ => rfl
theorem de_non {j : Nat} : DE X (.Constant .none j pos) (wC .non) := de_c pe_non fun _ _ => rfl
theorem de_gint {x : Str} {i : Int} (hg : Gl X x) (hm : ∃ t, X.mg x = some (.int i t)) (hd : (x == ("__debug__" : Str)) = false := by decide) : DE X (.Name x pos) (wC (.int i)) := by
  obtain ⟨t, hm⟩ := hm
  exact de_c (pe_glob (v := .int i) hg hm ⟨t, rfl⟩ hd) fun _ _ => rfl
theorem de_gstr {x : Str} {i : Str} (hg : Gl X x) (hm : ∃ t, X.mg x = some (.str i t)) (hd : (x == ("__debug__" : Str)) = false := by decide) : DE X (.Name x pos) (wC (.str i)) := by
  obtain ⟨t, hm⟩ := hm
  exact de_c (pe_glob (v := .str i) hg hm ⟨t, rfl⟩ hd) fun _ _ => rfl
theorem de_glo {x : Str} (hg : Gl X x) (hm : X.mg x = some (.ref (He.ga X.K x))) (hd : (x == ("__debug__" : Str)) = false := by decide) : DE X (.Name x pos) (wC (.glo x)) :=
  de_c (pe_glob (v := .ref (He.ga X.K x)) hg hm rfl hd) fun _ _ => rfl
theorem de_gty {x : Str} {u : String} (hg : Gl X x) (hm : X.mg x = none) (hv : bootBuiltins x = some (.type u)) (hn : x ≠ "__name__" := by decide) (hd : (x == ("__debug__" : Str)) = false := by decide) : DE X (.Name x pos) (wC (.ty u)) :=
  de_c (pe_bltn (v := .ty u) hg hm hv rfl hn hd) fun _ _ => rfl
/-- a module's own tuple of texts -/
def KTup (K : PySem.W.Frag) (a : Addr) (ss : List Str) : Prop := ∃ (o : Obj) (its : Array Value) (n : Nat), K.lookup a = some o ∧ o.cls = .type "tuple" ∧ o.data = .seq its n ∧ its.size ≤ sizeLine ∧ Vals (ss.map V.str) its.toList
theorem de_gtup {x : Str} {u : Addr} {ss : List Str} (hg : Gl X x) (hm : X.mg x = some (.ref u)) (hk : KTup X.K u ss) (hd : (x == ("__debug__" : Str)) = false := by decide) : DE X (.Name x pos) (wC (.tup (ss.map D.str))) :=
  de_c (pe_glob (v := .ref u) hg hm rfl hd) fun r H => ⟨u, ss.map V.str, rfl, .inr hk, Reps.strs ss⟩

/-! ### two operands -/
abbrev F2 := D → D → AH → QE → Prop
def wBin (f : F2) (a b : WE) : WE := fun env ah q x => a env ah (fun d1 ah1 => b env ah1 (fun d2 ah2 => f d1 d2 ah2 q) x) x
def OpD (K : PySem.W.Frag) (r2 : R2) (f : F2) : Prop := ∀ r H ah d1 d2 v u q Q, HRep K r H ah → Rep K r H d1 v → Rep K r H d2 u → f d1 d2 ah q → Cn K r H q Q → r2 v u H Q
theorem LE.bin {f : F2} {r2 : R2} {W : WX} {s : L2.St} {H : Hp} {Q : VK} (ho : OpD K r2 f) (h : LE K (wBin f wa wb) W s H Q) : tOp r2 (LE K wa W) (LE K wb W) s H Q := by
  obtain ⟨r, env, ah, q, x, he, hh, hw, hq, hx⟩ := h
  refine ⟨r, env, ah, _, x, he, hh, hw, fun d1 ah1 h1 r1 H1 v k1 hh1 p1 => ?_, hx⟩
  refine ⟨r1, env, ah1, _, x, he.mono k1, hh1, h1, fun d2 ah2 h2 r2 H2 u k2 hh2 p2 => ?_, hx.step k1⟩
  exact ho r2 H2 ah2 d1 d2 v u q Q hh2 (p1.mono k2) p2 h2 (hq.step (k1.trans k2))
structure Bop (X : Cx) (op : Value → Value → Sem Value) (f : F2) : Prop where
  ex : ∃ r2, OpR X op r2 ∧ OpD X.K r2 f
theorem de_bin {op : Operator} {f : F2} (o : Bop X (binaryOp op) f) (ha : DE X a wa) (hb : DE X b wb) : DE X (.BinOp a op b pos) (wBin f wa wb) := fun W tk => by
  obtain ⟨r2, h1, h2⟩ := o.ex
  exact (pe_op h1 (ha W tk) (hb W tk)).weak fun s H Q h => LE.bin h2 h
theorem de_cmp {op : CmpOp} {f : F2} (o : Bop X (compareOp op) f) (ha : DE X a wa) (hb : DE X b wb) (hm : behindInMarks op b = false) : DE X (.Compare a [op] [b] pos) (wBin f wa wb) := fun W tk => by
  obtain ⟨r2, h1, h2⟩ := o.ex
  exact (pe_cmpR h1 (ha W tk) (hb W tk) hm).weak fun s H Q h => LE.bin h2 h
theorem Bop.or {op : Value → Value → Sem Value} {f g h : F2} (o : Bop X op f) (o2 : Bop X op g) (i : ∀ d1 d2 ah q, h d1 d2 ah q → f d1 d2 ah q ∨ g d1 d2 ah q) : Bop X op h := by
  obtain ⟨r2, h1, h2⟩ := o.ex
  obtain ⟨r3, h3, h4⟩ := o2.ex
  refine ⟨_, h1.or h3, fun r H ah d1 d2 v u q Q hh p1 p2 w hq => ?_⟩
  rcases i _ _ _ _ w with w | w
  · exact .inl (h2 r H ah d1 d2 v u q Q hh p1 p2 w hq)
  · exact .inr (h4 r H ah d1 d2 v u q Q hh p1 p2 w hq)
theorem Bop.imp {op : Value → Value → Sem Value} {f h : F2} (o : Bop X op f) (i : ∀ d1 d2 ah q, h d1 d2 ah q → f d1 d2 ah q) : Bop X op h := by
  obtain ⟨r2, h1, h2⟩ := o.ex
  exact ⟨r2, h1, fun r H ah d1 d2 v u q Q hh p1 p2 w hq => h2 r H ah d1 d2 v u q Q hh p1 p2 (i _ _ _ _ w) hq⟩
/-- two ints -/
def fI (C : Int → Int → Prop) (g : Int → Int → D) : F2 := fun d1 d2 ah q => ∃ i j, d1 = .int i ∧ d2 = .int j ∧ C i j ∧ q (g i j) ah
theorem bop_I {op : Value → Value → Sem Value} {C : Int → Int → Prop} {gv : Int → Int → V} {g : Int → Int → D} (h : OpR X op (rI C gv)) (hg : ∀ i j r H, Rep X.K r H (g i j) (gv i j)) : Bop X op (fI C g) :=
  ⟨_, h, fun r H ah d1 d2 v u q Q hh p1 p2 w hq => by
    obtain ⟨i, j, rfl, rfl, c, w⟩ := w
    exact ⟨i, j, p1, p2, c, hq.here w hh (hg i j r H)⟩⟩
theorem bop_I0 {op : Value → Value → Sem Value} {gv : Int → Int → V} {g : Int → Int → D} (h : OpR X op (rI0 gv)) (hg : ∀ i j r H, Rep X.K r H (g i j) (gv i j)) : Bop X op (fI (fun _ _ => True) g) :=
  ⟨_, h, fun r H ah d1 d2 v u q Q hh p1 p2 w hq => by
    obtain ⟨i, j, rfl, rfl, c, w⟩ := w
    exact ⟨i, j, p1, p2, hq.here w hh (hg i j r H)⟩⟩
def fS (C : Str → Str → Prop) (g : Str → Str → D) : F2 := fun d1 d2 ah q => ∃ i j, d1 = .str i ∧ d2 = .str j ∧ C i j ∧ q (g i j) ah
theorem bop_add_str : Bop X (binaryOp .Add) (fS (fun i j => i.length + j.length ≤ sizeLine) fun i j => .str (i ++ j)) :=
  ⟨_, op_add_str, fun r H ah d1 d2 v u q Q hh p1 p2 w hq => by
    obtain ⟨i, j, rfl, rfl, c, w⟩ := w
    exact ⟨i, j, p1, p2, c, hq.here w hh rfl⟩⟩
/-- a new list -/
def newL (xs : List D) (ah : AH) (q : QE) : Prop := q (.ref ah.length) (ah ++ [.lst xs])
theorem newL_ok {r : List Addr} {H : Hp} {ah : AH} {q : QE} {Q : VK} {xs : List D} {vs : List V} (hh : HRep K r H ah) (hr : Reps K r H xs vs) (w : newL xs ah q) (hq : Cn K r H q Q) {p : Addr} (hp : H p = none) : Q (.ref p) (upd H p (.lst vs)) := by
  refine hq _ _ w (r ++ [p]) (upd H p (.lst vs)) (.ref p) (Kp.push hp) (hh.push hp ⟨vs, upd_same, hr.mono (Kp.push hp)⟩) ⟨p, ?_, rfl⟩
  rw [← hh.len]
  simp
theorem newT_ok {r : List Addr} {H : Hp} {ah : AH} {q : QE} {Q : VK} {xs : List D} {vs : List V} (hh : HRep K r H ah) (hr : Reps K r H xs vs) (w : q (.tup xs) ah) (hq : Cn K r H q Q) {p : Addr} (hp : H p = none) : Q (.ref p) (upd H p (.tup vs)) :=
  hq _ _ w r (upd H p (.tup vs)) (.ref p) (Kp.new_ hp) (hh.new_ hp) ⟨p, vs, rfl, .inl (.inl upd_same), hr.mono (Kp.new_ hp)⟩
def fCat : F2 := fun d1 d2 ah q => ∃ n m xs ys, d1 = .ref n ∧ d2 = .ref m ∧ ah[n]? = some (.lst xs) ∧ ah[m]? = some (.lst ys) ∧ xs.length + ys.length ≤ sizeLine ∧ newL (xs ++ ys) ah q
theorem bop_cat : Bop X (binaryOp .Add) fCat :=
  ⟨_, op_cat, fun r H ah d1 d2 v u q Q hh p1 p2 w hq => by
    obtain ⟨n, m, xs, ys, rfl, rfl, e1, e2, hl, w⟩ := w
    obtain ⟨a1, q1, rfl⟩ := p1
    obtain ⟨a2, q2, rfl⟩ := p2
    obtain ⟨vs, f1, r1⟩ := hh.ob _ _ _ q1 e1
    obtain ⟨us, f2, r2⟩ := hh.ob _ _ _ q2 e2
    refine ⟨a1, a2, vs, us, rfl, rfl, f1, f2, by rw [r1.length, r2.length]; exact hl, fun p hp => newL_ok hh (r1.append r2) w hq hp⟩⟩
def fCatT : F2 := fun d1 d2 ah q => ∃ xs ys, d1 = .tup xs ∧ d2 = .tup ys ∧ xs.length + ys.length ≤ sizeLine ∧ q (.tup (xs ++ ys)) ah
theorem bop_catT : Bop X (binaryOp .Add) fCatT :=
  ⟨_, op_catA, fun r H ah d1 d2 v u q Q hh p1 p2 w hq => by
    obtain ⟨xs, ys, rfl, rfl, hl, w⟩ := w
    obtain ⟨a1, vs, rfl, s1, r1⟩ := p1
    obtain ⟨a2, us, rfl, s2, r2⟩ := p2
    refine ⟨a1, a2, vs, us, rfl, rfl, s1, s2, by rw [r1.length, r2.length]; exact hl, fun z => ?_, fun _ z => ?_, fun _ _ p hp => newT_ok hh (r1.append r2) w hq hp⟩
    · subst z
      have e : xs = [] := List.eq_nil_of_length_eq_zero (by rw [← r1.length]; rfl)
      subst e
      exact hq.here w hh ⟨a2, us, rfl, s2, r2⟩
    · subst z
      have e : ys = [] := List.eq_nil_of_length_eq_zero (by rw [← r2.length]; rfl)
      subst e
      rw [List.append_nil] at w
      exact hq.here w hh ⟨a1, vs, rfl, s1, r1⟩⟩
def fAdd : F2 := fun d1 d2 ah q => match d1, d2 with
  | .int i, .int j => q (.int (i + j)) ah
  | .str i, .str j => i.length + j.length ≤ sizeLine ∧ q (.str (i ++ j)) ah
  | .tup i, .tup j => i.length + j.length ≤ sizeLine ∧ q (.tup (i ++ j)) ah
  | .ref n, .ref m => (match ah[n]?, ah[m]? with
    | some (.lst xs), some (.lst ys) => xs.length + ys.length ≤ sizeLine ∧ newL (xs ++ ys) ah q
    | _, _ => False)
  | _, _ => False
theorem bop_add : Bop X (binaryOp .Add) fAdd := by
  refine (bop_I0 (g := fun i j => .int (i + j)) op_add (fun _ _ _ _ => rfl)).or (bop_add_str.or (bop_cat.or bop_catT (h := fun d1 d2 ah q => fCat d1 d2 ah q ∨ fCatT d1 d2 ah q) fun _ _ _ _ h => h)
    (h := fun d1 d2 ah q => fS (fun i j => i.length + j.length ≤ sizeLine) (fun i j => .str (i ++ j)) d1 d2 ah q ∨ fCat d1 d2 ah q ∨ fCatT d1 d2 ah q) fun _ _ _ _ h => h) fun d1 d2 ah q h => ?_
  unfold fAdd at h
  split at h
  · exact .inl ⟨_, _, rfl, rfl, trivial, h⟩
  · exact .inr (.inl ⟨_, _, rfl, rfl, h.1, h.2⟩)
  · exact .inr (.inr (.inr ⟨_, _, rfl, rfl, h.1, h.2⟩))
  · split at h
    · exact .inr (.inr (.inl ⟨_, _, _, _, rfl, rfl, by assumption, by assumption, h.1, h.2⟩))
    · exact h.elim
  · exact h.elim
def fSub : F2 := fun d1 d2 ah q => match d1, d2 with
  | .int i, .int j => q (.int (i - j)) ah
  | _, _ => False
theorem bop_sub : Bop X (binaryOp .Sub) fSub := (bop_I0 (g := fun i j => .int (i - j)) op_sub (fun _ _ _ _ => rfl)).imp fun d1 d2 ah q h => by
  unfold fSub at h
  split at h
  · exact ⟨_, _, rfl, rfl, trivial, h⟩
  · exact h.elim
/-- a product is told: one factor is small, or both together have less than a million bits -/
def MulOk (i j : Int) : Prop := CMul i j ∨ CMulW i j
/-- a text so many times -/
def repS (z : Str) (n : Nat) : Str := ⟨(List.replicate n z.cps).foldl (· ++ ·) #[]⟩
def fMul : F2 := fun d1 d2 ah q => match d1, d2 with
  | .int i, .int j => MulOk i j ∧ q (.int (i * j)) ah
  | .ref n, .int k => (match ah[n]? with
    | some (.lst xs) => -(2 ^ 63) ≤ k ∧ k < 2 ^ 63 ∧ xs.length * k.toNat ≤ sizeLine ∧ newL (List.replicate k.toNat xs).flatten ah q
    | _ => False)
  | .str z, .int k => (2 ≤ k ∧ k < 2 ^ 20 ∧ 1 ≤ z.length ∧ z.length * k.toNat ≤ sizeLine) ∧ q (.str (repS z k.toNat)) ah
  | .tup l, .int k => (l ≠ [] ∧ 2 ≤ k ∧ k ≤ 1000 ∧ l.length ≤ 1000) ∧ q (.tup (List.replicate k.toNat l).flatten) ah
  | _, _ => False
def fRep : F2 := fun d1 d2 ah q => ∃ n k xs, d1 = .ref n ∧ d2 = .int k ∧ ah[n]? = some (.lst xs) ∧ -(2 ^ 63) ≤ k ∧ k < 2 ^ 63 ∧ xs.length * k.toNat ≤ sizeLine ∧ newL (List.replicate k.toNat xs).flatten ah q
theorem bop_rep : Bop X (binaryOp .Mult) fRep :=
  ⟨_, op_rep, fun r H ah d1 d2 v u q Q hh p1 p2 w hq => by
    obtain ⟨n, k, xs, rfl, rfl, e1, h1, h2, hl, w⟩ := w
    obtain ⟨a1, q1, rfl⟩ := p1
    obtain ⟨vs, f1, r1⟩ := hh.ob _ _ _ q1 e1
    exact ⟨a1, k, vs, rfl, p2, f1, h1, h2, by rw [r1.length]; exact hl, fun p hp => newL_ok hh (r1.flat _) w hq hp⟩⟩
def rMulS : R2 := fun x y H Q => ∃ z k, x = .str z ∧ y = .int k ∧ 2 ≤ k ∧ k < 2 ^ 20 ∧ 1 ≤ z.length ∧ z.length * k.toNat ≤ sizeLine ∧ Q (.str (repS z k.toNat)) H
theorem rep_size (x : Array Nat) : ∀ (n : Nat) (a : Array Nat), ((List.replicate n x).foldl (· ++ ·) a).size = a.size + n * x.size
  | 0, a => by simp
  | n + 1, a => by
    rw [List.replicate_succ, List.foldl_cons, rep_size x n, Array.size_append, Nat.succ_mul]
    omega
theorem op_mulS : OpR X (binaryOp .Mult) rMulS := by
  intro pins s σ H x y v u Q I rx ry h
  obtain ⟨z, k, rfl, rfl, h1, h2, h3, h4, q⟩ := h
  obtain ⟨t, rfl⟩ := rx
  obtain ⟨t2, rfl⟩ := ry
  have hz : (z.length : Int) ≤ 16777216 := by
    have a1 : z.length * 1 ≤ z.length * k.toNat := Nat.mul_le_mul_left _ (by omega)
    have a2 : z.length * k.toNat ≤ 16777216 := h4
    omega
  refine PySem.P.mul_str (by rw [decide_eq_false (by omega), decide_eq_false (by omega)]; rfl) (fun _ _ hgt => ?_) (fun _ _ => ?_) ?_
  · have b2 : (2 ^ 63 - 1 : Int) / 2 ^ 20 = 8796093022207 := by decide
    have b1 : (8796093022207 : Int) ≤ (2 ^ 63 - 1) / k := Int.le_ediv_of_mul_le (by omega) (by omega)
    omega
  · unfold Builtin.Str.tooLong
    exact decide_eq_false (by omega)
  · rw [if_neg (by omega), if_neg (by simp; omega)]
    refine ⟨?_, .str _, H, I.tok _, ⟨_, rfl⟩, q⟩
    show (repS z k.toNat).cps.size ≤ _
    unfold repS
    rw [rep_size]
    simp only [List.size_toArray, List.length_nil, Nat.zero_add]
    rw [Nat.mul_comm]
    exact h4
def fMulS : F2 := fun d1 d2 ah q => ∃ z k, d1 = .str z ∧ d2 = .int k ∧ 2 ≤ k ∧ k < 2 ^ 20 ∧ 1 ≤ z.length ∧ z.length * k.toNat ≤ sizeLine ∧ q (.str (repS z k.toNat)) ah
theorem bop_mulS : Bop X (binaryOp .Mult) fMulS :=
  ⟨_, op_mulS, fun r H ah d1 d2 v u q Q hh p1 p2 w hq => by
    obtain ⟨z, k, rfl, rfl, h1, h2, h3, h4, w⟩ := w
    exact ⟨z, k, p1, p2, h1, h2, h3, h4, hq.here w hh rfl⟩⟩
def fMulT : F2 := fun d1 d2 ah q => ∃ l k, d1 = .tup l ∧ d2 = .int k ∧ l ≠ [] ∧ 2 ≤ k ∧ k ≤ 1000 ∧ l.length ≤ 1000 ∧ q (.tup (List.replicate k.toNat l).flatten) ah
theorem bop_mulT : Bop X (binaryOp .Mult) fMulT :=
  ⟨_, op_repT, fun r H ah d1 d2 v u q Q hh p1 p2 w hq => by
    obtain ⟨l, k, rfl, rfl, h1, h2, h3, h4, w⟩ := w
    obtain ⟨a, vs, rfl, s1, r1⟩ := p1
    refine ⟨a, k, vs, rfl, p2, s1, ?_, h2, h3, by rw [r1.length]; exact h4, fun p hp => newT_ok hh (r1.flat _) w hq hp⟩
    intro e
    subst e
    exact h1 (List.eq_nil_of_length_eq_zero (by rw [← r1.length]; rfl))⟩
theorem bop_mul : Bop X (binaryOp .Mult) fMul := by
  refine (bop_I (g := fun i j => .int (i * j)) op_mul (fun _ _ _ _ => rfl)).or ((bop_I (g := fun i j => .int (i * j)) op_mulW (fun _ _ _ _ => rfl)).or (bop_rep.or (bop_mulS.or bop_mulT (h := fun d1 d2 ah q => fMulS d1 d2 ah q ∨ fMulT d1 d2 ah q) fun _ _ _ _ h => h) (h := fun d1 d2 ah q => fRep d1 d2 ah q ∨ fMulS d1 d2 ah q ∨ fMulT d1 d2 ah q) fun _ _ _ _ h => h) (h := fun d1 d2 ah q => fI CMulW (fun i j => .int (i * j)) d1 d2 ah q ∨ fRep d1 d2 ah q ∨ fMulS d1 d2 ah q ∨ fMulT d1 d2 ah q) fun _ _ _ _ h => h) fun d1 d2 ah q h => ?_
  unfold fMul at h
  split at h
  · rcases h.1 with z | z
    · exact .inl ⟨_, _, rfl, rfl, z, h.2⟩
    · exact .inr (.inl ⟨_, _, rfl, rfl, z, h.2⟩)
  · split at h
    · exact .inr (.inr (.inl ⟨_, _, _, rfl, rfl, by assumption, h.1, h.2.1, h.2.2.1, h.2.2.2⟩))
    · exact h.elim
  · exact .inr (.inr (.inr (.inl ⟨_, _, rfl, rfl, h.1.1, h.1.2.1, h.1.2.2.1, h.1.2.2.2, h.2⟩)))
  · exact .inr (.inr (.inr (.inr ⟨_, _, rfl, rfl, h.1.1, h.1.2.1, h.1.2.2.1, h.1.2.2.2, h.2⟩)))
  · exact h.elim
def fDiv : F2 := fun d1 d2 ah q => match d1, d2 with
  | .int i, .int j => CDivW i j ∧ q (.int (i / j)) ah
  | _, _ => False
theorem bop_div : Bop X (binaryOp .FloorDiv) fDiv := (bop_I (g := fun i j => .int (i / j)) op_fdivW (fun _ _ _ _ => rfl)).imp fun d1 d2 ah q h => by
  unfold fDiv at h
  split at h
  · exact ⟨_, _, rfl, rfl, h.1, h.2⟩
  · exact h.elim
def fMod : F2 := fun d1 d2 ah q => match d1, d2 with
  | .int i, .int j => 0 < j ∧ q (.int (i % j)) ah
  | _, _ => False
theorem bop_mod : Bop X (binaryOp .Mod) fMod := (bop_I (g := fun i j => .int (i % j)) op_mod (fun _ _ _ _ => rfl)).imp fun d1 d2 ah q h => by
  unfold fMod at h
  split at h
  · exact ⟨_, _, rfl, rfl, h.1, h.2⟩
  · exact h.elim
def fPow : F2 := fun d1 d2 ah q => match d1, d2 with
  | .int i, .int j => CPow i j ∧ q (.int (i ^ j.toNat)) ah
  | _, _ => False
theorem bop_pow : Bop X (binaryOp .Pow) fPow := (bop_I (g := fun i j => .int (i ^ j.toNat)) op_pow (fun _ _ _ _ => rfl)).imp fun d1 d2 ah q h => by
  unfold fPow at h
  split at h
  · exact ⟨_, _, rfl, rfl, h.1, h.2⟩
  · exact h.elim
/-! ### comparisons -/
def fLt : F2 := fun d1 d2 ah q => match d1, d2 with
  | .int i, .int j => q (.bl (decide (i < j))) ah
  | .str i, .str j => q (.bl (decide (i.cps.toList < j.cps.toList))) ah
  | _, _ => False
def fLe : F2 := fun d1 d2 ah q => match d1, d2 with
  | .int i, .int j => q (.bl (decide (i ≤ j))) ah
  | _, _ => False
def fGt : F2 := fun d1 d2 ah q => match d1, d2 with
  | .int i, .int j => q (.bl (decide (j < i))) ah
  | .str i, .str j => q (.bl (decide (j.cps.toList < i.cps.toList))) ah
  | _, _ => False
def fGe : F2 := fun d1 d2 ah q => match d1, d2 with
  | .int i, .int j => q (.bl (decide (j ≤ i))) ah
  | _, _ => False
theorem bop_lt : Bop X (compareOp .Lt) fLt := by
  refine (bop_I0 (g := fun i j => .bl (decide (i < j))) op_lt (fun _ _ _ _ => rfl)).or (g := fS (fun _ _ => True) fun i j => .bl (decide (i.cps.toList < j.cps.toList))) ⟨_, op_lt_str, fun r H ah d1 d2 v u q Q hh p1 p2 w hq => ?_⟩ fun d1 d2 ah q h => ?_
  · obtain ⟨i, j, rfl, rfl, c, w⟩ := w
    exact ⟨i, j, p1, p2, hq.here w hh rfl⟩
  · unfold fLt at h
    split at h
    · exact .inl ⟨_, _, rfl, rfl, trivial, h⟩
    · exact .inr ⟨_, _, rfl, rfl, trivial, h⟩
    · exact h.elim
theorem bop_gt : Bop X (compareOp .Gt) fGt := by
  refine (bop_I0 (g := fun i j => .bl (decide (j < i))) op_gt (fun _ _ _ _ => rfl)).or (g := fS (fun _ _ => True) fun i j => .bl (decide (j.cps.toList < i.cps.toList))) ⟨_, op_gt_str, fun r H ah d1 d2 v u q Q hh p1 p2 w hq => ?_⟩ fun d1 d2 ah q h => ?_
  · obtain ⟨i, j, rfl, rfl, c, w⟩ := w
    exact ⟨i, j, p1, p2, hq.here w hh rfl⟩
  · unfold fGt at h
    split at h
    · exact .inl ⟨_, _, rfl, rfl, trivial, h⟩
    · exact .inr ⟨_, _, rfl, rfl, trivial, h⟩
    · exact h.elim
theorem bop_le : Bop X (compareOp .LtE) fLe := (bop_I0 (g := fun i j => .bl (decide (i ≤ j))) op_le (fun _ _ _ _ => rfl)).imp fun d1 d2 ah q h => by
  unfold fLe at h
  split at h
  · exact ⟨_, _, rfl, rfl, trivial, h⟩
  · exact h.elim
theorem bop_ge : Bop X (compareOp .GtE) fGe := (bop_I0 (g := fun i j => .bl (decide (j ≤ i))) op_ge (fun _ _ _ _ => rfl)).imp fun d1 d2 ah q h => by
  unfold fGe at h
  split at h
  · exact ⟨_, _, rfl, rfl, trivial, h⟩
  · exact h.elim
/-- is, is not: of None and of truths -/
def fIs (neg : Bool) : F2 := fun d1 d2 ah q => match d1, d2 with
  | .bl a, .bl b => q (.bl (neg != decide (a = b))) ah
  | .non, .non => q (.bl (!neg)) ah
  | .int _, .non => q (.bl neg) ah
  | .str _, .non => q (.bl neg) ah
  | .bl _, .non => q (.bl neg) ah
  | .tup _, .non => q (.bl neg) ah
  | .ref _, .non => q (.bl neg) ah
  | _, _ => False
/-- data as the model's own -/
def pds (f : D → Option PyData) : List D → Option (List PyData)
  | [] => some []
  | d :: l => match f d, pds f l with
    | some x, some y => some (x :: y)
    | _, _ => none
def pd : Nat → AH → D → Option PyData
  | _, _, .non => some .none
  | _, _, .bl b => some (.bool b)
  | _, _, .int i => some (.int i)
  | _, _, .str s => some (.str s)
  | n + 1, ah, .tup l => (pds (pd n ah) l).map .tuple
  | n + 1, ah, .frl l => (pds (pd n ah) l).map .list
  | n + 1, ah, .ref k => (match ah[k]? with
    | some (.lst xs) => (pds (pd n ah) xs).map .list
    | _ => none)
  | _, _, _ => none
theorem pds_dp {f : D → Option PyData} {r : List Addr} {H : Hp} (h : ∀ d v p, Rep K r H d v → f d = some p → Dp K H v p) : ∀ {l : List D} {vs : List V} {ps : List PyData}, Reps K r H l vs → pds f l = some ps → DpAll K H vs ps
  | [], _, _, e, e2 => by cases e; cases e2; exact .nil
  | d :: l, _, _, ⟨v, vr, e, p, q⟩, e2 => by
    subst e
    unfold pds at e2
    split at e2
    · cases e2
      exact .cons (h _ _ _ p (by assumption)) (pds_dp h q (by assumption))
    · cases e2
theorem pd_dp {r : List Addr} {H : Hp} {ah : AH} (hh : HRep K r H ah) : ∀ (n : Nat) (d : D) (v : V) (p : PyData), Rep K r H d v → pd n ah d = some p → Dp K H v p := by
  intro n
  induction n with
  | zero =>
    intro d v p h e
    cases d <;> first | (cases e; cases h; constructor) | cases e
  | succ n ih =>
    intro d v p h e
    cases d with
    | non => cases e; cases h; constructor
    | bl b => cases e; cases h; constructor
    | int b => cases e; cases h; constructor
    | str b => cases e; cases h; constructor
    | ty n => cases e
    | glo n => cases e
    | fn f c q l us => cases e
    | tup l =>
      obtain ⟨a, xs, rfl, s, q⟩ := h
      unfold pd at e
      cases z : pds (pd n ah) l with
      | none => rw [z] at e; cases e
      | some ps => rw [z] at e; cases e; exact .tup s (pds_dp ih q z)
    | frl l =>
      obtain ⟨a, xs, rfl, s, q⟩ := h
      unfold pd at e
      cases z : pds (pd n ah) l with
      | none => rw [z] at e; cases e
      | some ps => rw [z] at e; cases e; exact .lst s.sq (pds_dp ih q z)
    | ref k =>
      obtain ⟨a, q1, rfl⟩ := h
      unfold pd at e
      split at e
      · rename_i xs q2
        obtain ⟨vs, f1, r1⟩ := hh.ob _ _ _ q1 q2
        cases z : pds (pd n ah) xs with
        | none => rw [z] at e; cases e
        | some ps => rw [z] at e; cases e; exact .lst (.of f1) (pds_dp ih r1 z)
      · cases e
def fEqD (neg : Bool) : F2 := fun d1 d2 ah q => ∃ p1 p2, pd 20 ah d1 = some p1 ∧ pd 20 ah d2 = some p2 ∧ SeqAt.shaped p1 = true ∧ SeqAt.shaped p2 = true ∧ q (.bl (neg != PyData.eqv p1 p2)) ah
theorem bop_eqD (hu : X.A.units + 64 < cLine) : Bop X (compareOp .Eq) (fEqD false) :=
  ⟨_, op_eqD hu, fun r H ah d1 d2 v u q Q hh h1 h2 w hq => by
    obtain ⟨p1, p2, e1, e2, s1, s2, w⟩ := w
    exact ⟨p1, p2, pd_dp hh _ _ _ _ h1 e1, pd_dp hh _ _ _ _ h2 e2, s1, s2, hq.here w hh (by simp [Rep])⟩⟩
theorem bop_neD (hu : X.A.units + 64 < cLine) : Bop X (compareOp .NotEq) (fEqD true) :=
  ⟨_, op_neD hu, fun r H ah d1 d2 v u q Q hh h1 h2 w hq => by
    obtain ⟨p1, p2, e1, e2, s1, s2, w⟩ := w
    exact ⟨p1, p2, pd_dp hh _ _ _ _ h1 e1, pd_dp hh _ _ _ _ h2 e2, s1, s2, hq.here w hh (by simp [Rep])⟩⟩
end
end Z
namespace Z
open PySem PySem.Spec PyProof.Rows L2
section
variable {X : Cx} {K : PySem.W.Frag} {pos : Pos} {a b c e : Expr} {es : List Expr} {wa wb wc we : WE} {ta tb tc : WT} {ws : WA}

/-- == and != : scalars at once, all else as data -/
def fEq (neg : Bool) : F2 := fun d1 d2 ah q => match d1, d2 with
  | .int i, .int j => q (.bl (neg != decide (i = j))) ah
  | .str i, .str j => q (.bl (neg != decide (i = j))) ah
  | .bl i, .bl j => q (.bl (neg != decide (i = j))) ah
  | .non, .non => q (.bl (!neg)) ah
  | .int _, .non => q (.bl neg) ah
  | .non, .int _ => q (.bl neg) ah
  | .str _, .non => q (.bl neg) ah
  | .non, .str _ => q (.bl neg) ah
  | .int _, .str _ => q (.bl neg) ah
  | .str _, .int _ => q (.bl neg) ah
  | d1, d2 => fEqD neg d1 d2 ah q
def fScal (neg : Bool) : F2 := fun d1 d2 ah q => ∃ v u, (∀ K r H, Rep K r H d1 v) ∧ (∀ K r H, Rep K r H d2 u) ∧ scal v u = true ∧ q (.bl (neg != decide (v = u))) ah
theorem rep_uniq {r : List Addr} {H : Hp} {d : D} {v u : V} (h1 : ∀ K r H, Rep K r H d v) (h2 : Rep K r H d u) : v = u := by
  cases d with
  | non => exact (h1 K r H).trans (Eq.symm h2)
  | bl _ => exact (h1 K r H).trans (Eq.symm h2)
  | int _ => exact (h1 K r H).trans (Eq.symm h2)
  | str _ => exact (h1 K r H).trans (Eq.symm h2)
  | ty _ => exact (h1 K r H).trans (Eq.symm h2)
  | glo _ => exact (h1 K r H).trans (Eq.symm h2)
  | fn f c q l us =>
    obtain ⟨_, _, z, _⟩ := h1 [] [] (fun _ => none)
    cases z
  | ref n =>
    obtain ⟨a, e, rfl⟩ := h1 K r H
    obtain ⟨b, e2, rfl⟩ := h2
    rw [e] at e2; cases e2; rfl
  | tup l =>
    obtain ⟨a, xs, rfl, s, _⟩ := h1 K r H
    obtain ⟨a', xs', rfl, s', _⟩ := h2
    obtain ⟨a2, xs2, e, s2, _⟩ := h1 [] [] (fun _ => none)
    rcases s2 with s2 | ⟨o, its, n, hk, _⟩
    · rcases s2 with s2 | ⟨o, s2⟩ <;> cases s2
    · cases hk
  | frl l =>
    obtain ⟨a2, xs2, e, s2, _⟩ := h1 [] [] (fun _ => none)
    rcases s2 with ⟨o, s2⟩ | ⟨o, its, n, hk, _⟩
    · cases s2
    · cases hk
theorem bop_scal : Bop X (compareOp .Eq) (fScal false) :=
  ⟨_, op_eq, fun r H ah d1 d2 v u q Q hh p1 p2 w hq => by
    obtain ⟨v', u', h1, h2, hs, w⟩ := w
    obtain rfl := rep_uniq h1 p1
    obtain rfl := rep_uniq h2 p2
    exact ⟨hs, hq.here w hh (by simp [Rep])⟩⟩
theorem bop_scalN : Bop X (compareOp .NotEq) (fScal true) :=
  ⟨_, op_ne, fun r H ah d1 d2 v u q Q hh p1 p2 w hq => by
    obtain ⟨v', u', h1, h2, hs, w⟩ := w
    obtain rfl := rep_uniq h1 p1
    obtain rfl := rep_uniq h2 p2
    exact ⟨hs, hq.here w hh (by simp [Rep])⟩⟩
theorem fEq_split (neg : Bool) (d1 d2 : D) (ah : AH) (q : QE) (h : fEq neg d1 d2 ah q) : fScal neg d1 d2 ah q ∨ fEqD neg d1 d2 ah q := by
  unfold fEq at h
  split at h
  · exact .inl ⟨.int _, .int _, fun _ _ _ => rfl, fun _ _ _ => rfl, rfl, by simpa using h⟩
  · exact .inl ⟨.str _, .str _, fun _ _ _ => rfl, fun _ _ _ => rfl, rfl, by simpa using h⟩
  · exact .inl ⟨.bl _, .bl _, fun _ _ _ => rfl, fun _ _ _ => rfl, rfl, by simpa using h⟩
  · exact .inl ⟨.non, .non, fun _ _ _ => rfl, fun _ _ _ => rfl, rfl, by simpa using h⟩
  · exact .inl ⟨.int _, .non, fun _ _ _ => rfl, fun _ _ _ => rfl, rfl, by simpa using h⟩
  · exact .inl ⟨.non, .int _, fun _ _ _ => rfl, fun _ _ _ => rfl, rfl, by simpa using h⟩
  · exact .inl ⟨.str _, .non, fun _ _ _ => rfl, fun _ _ _ => rfl, rfl, by simpa using h⟩
  · exact .inl ⟨.non, .str _, fun _ _ _ => rfl, fun _ _ _ => rfl, rfl, by simpa using h⟩
  · exact .inl ⟨.int _, .str _, fun _ _ _ => rfl, fun _ _ _ => rfl, rfl, by simpa using h⟩
  · exact .inl ⟨.str _, .int _, fun _ _ _ => rfl, fun _ _ _ => rfl, rfl, by simpa using h⟩
  · exact .inr h
theorem bop_eq (hu : X.A.units + 64 < cLine) : Bop X (compareOp .Eq) (fEq false) := bop_scal.or (bop_eqD hu) (fEq_split false)
theorem bop_ne (hu : X.A.units + 64 < cLine) : Bop X (compareOp .NotEq) (fEq true) := bop_scalN.or (bop_neD hu) (fEq_split true)
theorem bop_is : Bop X (compareOp .Is) (fIs false) := by
  refine Bop.or (f := fun d1 d2 ah q => ∃ a b, d1 = .bl a ∧ d2 = .bl b ∧ q (.bl (decide (a = b))) ah) (g := fun d1 d2 ah q => d2 = .non ∧ ∀ v, (∃ K r H, Rep K r H d1 v) → q (.bl (decide (v = .non))) ah)
    ⟨_, op_is_bl, fun r H ah d1 d2 v u q Q hh p1 p2 w hq => ?_⟩ ⟨_, op_isN, fun r H ah d1 d2 v u q Q hh p1 p2 w hq => ?_⟩ fun d1 d2 ah q h => ?_
  · obtain ⟨a, b, rfl, rfl, w⟩ := w
    exact ⟨a, b, p1, p2, hq.here w hh rfl⟩
  · obtain ⟨rfl, w⟩ := w
    exact ⟨p2, hq.here (w v ⟨_, r, H, p1⟩) hh rfl⟩
  · unfold fIs at h
    split at h
    · exact .inl ⟨_, _, rfl, rfl, by simpa using h⟩
    all_goals first
      | exact h.elim
      | (refine .inr ⟨rfl, fun v p => ?_⟩
         obtain ⟨K, r, H, p⟩ := p
         first
           | (have e : v = _ := p; subst e; simpa using h)
           | (obtain ⟨a, xs, e, _⟩ := p; subst e; simpa using h)
           | (obtain ⟨a, _, e⟩ := p; subst e; simpa using h))
theorem bop_isnot : Bop X (compareOp .IsNot) (fIs true) := by
  refine Bop.or (f := fun d1 d2 ah q => ∃ a b, d1 = .bl a ∧ d2 = .bl b ∧ q (.bl (!decide (a = b))) ah) (g := fun d1 d2 ah q => d2 = .non ∧ ∀ v, (∃ K r H, Rep K r H d1 v) → q (.bl (!decide (v = .non))) ah)
    ⟨_, op_isnot_bl, fun r H ah d1 d2 v u q Q hh p1 p2 w hq => ?_⟩ ⟨_, op_notN, fun r H ah d1 d2 v u q Q hh p1 p2 w hq => ?_⟩ fun d1 d2 ah q h => ?_
  · obtain ⟨a, b, rfl, rfl, w⟩ := w
    exact ⟨a, b, p1, p2, hq.here w hh rfl⟩
  · obtain ⟨rfl, w⟩ := w
    exact ⟨p2, hq.here (w v ⟨_, r, H, p1⟩) hh rfl⟩
  · unfold fIs at h
    split at h
    · exact .inl ⟨_, _, rfl, rfl, by simpa using h⟩
    all_goals first
      | exact h.elim
      | (refine .inr ⟨rfl, fun v p => ?_⟩
         obtain ⟨K, r, H, p⟩ := p
         first
           | (have e : v = _ := p; subst e; simpa using h)
           | (obtain ⟨a, xs, e, _⟩ := p; subst e; simpa using h)
           | (obtain ⟨a, _, e⟩ := p; subst e; simpa using h))
/-! ### in, not in: a sign in a text; flat things in a list or tuple -/
def flatD : D → Bool
  | .non => true | .bl _ => true | .int _ => true | .str _ => true | _ => false
def eqF : D → D → Bool
  | .non, .non => true
  | .bl a, .bl b => a == b
  | .bl a, .int b => (if a then 1 else 0) == b
  | .int a, .bl b => a == (if b then 1 else 0)
  | .int a, .int b => a == b
  | .str a, .str b => a == b
  | _, _ => false
theorem flat_rep {r : List Addr} {H : Hp} {d : D} {v : V} (h : Rep K r H d v) (f : flatD d = true) : flatV v = true := by
  cases d <;> first | exact absurd f Bool.false_ne_true | (cases h; rfl)
theorem flats_rep {r : List Addr} {H : Hp} : ∀ {l : List D} {vs : List V}, Reps K r H l vs → l.all flatD = true → vs.all flatV = true
  | [], _, h, _ => by cases h; rfl
  | d :: l, _, ⟨v, vr, e, p, q⟩, f => by
    subst e
    simp only [List.all_cons, Bool.and_eq_true] at f ⊢
    exact ⟨flat_rep p f.1, flats_rep q f.2⟩
theorem eqF_rep {r : List Addr} {H : Hp} {d d' : D} {v v' : V} (h : Rep K r H d v) (h' : Rep K r H d' v') (f : flatD d = true) (f' : flatD d' = true) : eqV v v' = eqF d d' := by
  cases d <;> first
    | exact absurd f Bool.false_ne_true
    | (cases h; cases d' <;> first | exact absurd f' Bool.false_ne_true | (cases h'; rfl))
theorem anyF_rep {r : List Addr} {H : Hp} {d : D} {v : V} (h : Rep K r H d v) (f : flatD d = true) : ∀ {l : List D} {vs : List V}, Reps K r H l vs → l.all flatD = true → inV v vs = l.any fun y => eqF y d
  | [], _, h, _ => by cases h; rfl
  | y :: l, _, ⟨u, vr, e, p, q⟩, g => by
    subst e
    simp only [List.all_cons, Bool.and_eq_true] at g
    have ih := anyF_rep h f q g.2
    unfold inV at ih ⊢
    rw [List.any_cons, List.any_cons, ih, eqF_rep p h g.1 f]
def fIn (neg : Bool) : F2 := fun d1 d2 ah q => match d1, d2 with
  | .str x, .str z => ∃ c, x = ⟨#[c]⟩ ∧ q (.bl (neg != decide (c ∈ z.cps.toList))) ah
  | d, .tup l => flatD d = true ∧ l.all flatD = true ∧ q (.bl (neg != l.any fun y => eqF y d)) ah
  | d, .ref n => (match ah[n]? with
    | some (.lst l) => flatD d = true ∧ l.all flatD = true ∧ q (.bl (neg != l.any fun y => eqF y d)) ah
    | _ => False)
  | _, _ => False
def fInSign (neg : Bool) : F2 := fun d1 d2 ah q => ∃ c z, d1 = .str ⟨#[c]⟩ ∧ d2 = .str z ∧ q (.bl (neg != decide (c ∈ z.cps.toList))) ah
def fInFlat (neg : Bool) : F2 := fun d1 d2 ah q => ∃ l, (d2 = .tup l ∨ ∃ n, d2 = .ref n ∧ ah[n]? = some (.lst l)) ∧ flatD d1 = true ∧ l.all flatD = true ∧ q (.bl (neg != l.any fun y => eqF y d1)) ah
theorem fIn_split (neg : Bool) (d1 d2 : D) (ah : AH) (q : QE) (h : fIn neg d1 d2 ah q) : fInSign neg d1 d2 ah q ∨ fInFlat neg d1 d2 ah q := by
  unfold fIn at h
  split at h
  · obtain ⟨c, e, h⟩ := h
    exact .inl ⟨c, _, by rw [e], rfl, h⟩
  · exact .inr ⟨_, .inl rfl, h⟩
  · split at h
    · exact .inr ⟨_, .inr ⟨_, rfl, by assumption⟩, h⟩
    · exact h.elim
  · exact h.elim
theorem inFlat_ok {neg : Bool} : OpD K (rIn K neg) (fInFlat neg) := fun r H ah d1 d2 v u q Q hh p1 p2 w hq => by
  obtain ⟨l, h, f1, f2, w⟩ := w
  have fin : ∀ vs, Reps K r H l vs → Q (.bl (if neg = true then !inV v vs else inV v vs)) H := fun vs rv => by
    rw [anyF_rep p1 f1 rv f2]
    refine hq.here w hh ?_
    cases neg <;> simp [Rep]
  rcases h with rfl | ⟨n, rfl, e⟩
  · obtain ⟨p, vs, rfl, s, rv⟩ := p2
    exact ⟨p, vs, rfl, .inr s, flat_rep p1 f1, flats_rep rv f2, fin vs rv⟩
  · obtain ⟨p, e1, rfl⟩ := p2
    obtain ⟨vs, f, rv⟩ := hh.ob _ _ _ e1 e
    exact ⟨p, vs, rfl, .inl (.of f), flat_rep p1 f1, flats_rep rv f2, fin vs rv⟩
theorem bop_in : Bop X (compareOp .In) (fIn false) := Bop.or (f := fInSign false) (g := fInFlat false) ⟨_, op_in_sign, fun r H ah d1 d2 v u q Q hh p1 p2 w hq => by
    obtain ⟨c, z, rfl, rfl, w⟩ := w
    exact ⟨c, z, p1, p2, hq.here w hh (by simp [Rep])⟩⟩ ⟨_, op_in_seq, inFlat_ok⟩ (fIn_split false)
theorem bop_notin : Bop X (compareOp .NotIn) (fIn true) := Bop.or (f := fInSign true) (g := fInFlat true) ⟨_, op_notIn_sign, fun r H ah d1 d2 v u q Q hh p1 p2 w hq => by
    obtain ⟨c, z, rfl, rfl, w⟩ := w
    exact ⟨c, z, p1, p2, hq.here w hh (by simp [Rep])⟩⟩ ⟨_, op_notIn_seq, inFlat_ok⟩ (fIn_split true)

/-! ### an item -/
theorem atI_rep {r : List Addr} {H : Hp} {l : List D} {vs : List V} {i : Int} {d : D} (h : Reps K r H l vs) (e : atI l i = some d) : ∃ v, atI vs i = some v ∧ Rep K r H d v := by
  unfold atI at e ⊢
  rw [h.length]
  cases z : ixN l.length i with
  | none => rw [z] at e; cases e
  | some j =>
    rw [z] at e
    exact h.get e
def fIx : F2 := fun d1 d2 ah q => match d1, d2 with
  | .tup l, .int i => (match atI l i with
    | some d => q d ah
    | none => False)
  | .ref n, .int i => (match ah[n]? with
    | some (.lst l) => (match atI l i with
      | some d => q d ah
      | none => False)
    | _ => False)
  | .str z, .int i => z.length ≤ sizeLine ∧ (match atI z.cps.toList i with
    | some c => q (.str ⟨#[c]⟩) ah
    | none => False)
  | _, _ => False
theorem ixD : OpD K (rIx K) fIx := fun r H ah d1 d2 v u q Q hh p1 p2 w hq => by
  unfold fIx at w
  split at w
  · split at w
    · rename_i l i _ d e
      obtain ⟨p, vs, rfl, s, rv⟩ := p1
      obtain ⟨v, e1, rd⟩ := atI_rep rv e
      exact .inr (.inl ⟨p, vs, i, v, rfl, p2, s, e1, hq.here w hh rd⟩)
    · exact w.elim
  · split at w
    · rename_i n i _ l e
      split at w
      · rename_i d e2
        obtain ⟨p, e1, rfl⟩ := p1
        obtain ⟨vs, f, rv⟩ := hh.ob _ _ _ e1 e
        obtain ⟨v, e3, rd⟩ := atI_rep rv e2
        exact .inl ⟨p, vs, i, v, rfl, p2, .of f, e3, hq.here w hh rd⟩
      · exact w.elim
    · exact w.elim
  · obtain ⟨hl, w⟩ := w
    split at w
    · rename_i z i _ c e
      exact .inr (.inr ⟨z, i, c, p1, p2, hl, e, hq.here w hh rfl⟩)
    · exact w.elim
  · exact w.elim
theorem de_ix (ha : DE X a wa) (hb : DE X b wb) (hs : PlainIx b) : DE X (.Subscript a b pos) (wBin fIx wa wb) := fun W tk =>
  (pe_ix ix_seq (ha W tk) (hb W tk) hs).weak fun s H Q h => LE.bin ixD h

/-! ### a slice -/
abbrev WO := En → AH → (Option Int → AH → Prop) → QX → Prop
def CnO (K : PySem.W.Frag) (r : List Addr) (H : Hp) (q : Option Int → AH → Prop) (Q : Option Int → Hp → Prop) : Prop := ∀ d ah, q d ah → ∀ r' H', Kp K r H r' H' → HRep K r' H' ah → Q d H'
def LO (K : PySem.W.Frag) (w : WO) (W : WX) : TO := fun s H Q => ∃ r env ah q x, ERep K r H env s ∧ HRep K r H ah ∧ w env ah q x ∧ CnO K r H q Q ∧ CnX K r H x (fun c d H' => W c d s H')
def DO (X : Cx) (e : Option Expr) (w : WO) : Prop := ∀ W, Takes X W → PO X e (LO X.K w W)
def wNoPart : WO := fun _ ah q _ => q none ah
def wPart (w : WE) : WO := fun env ah q x => w env ah (fun d ah1 => match d with
  | .int i => q (some i) ah1
  | _ => False) x
theorem do_none : DO X none wNoPart := fun W tk => ⟨fun pins s σ H Q I ⟨r, env, ah, q, x, he, hh, hw, hq, hx⟩ => po_none.run pins s σ H Q I (hq _ _ hw r H Kp.refl hh)⟩
theorem do_some (h : DE X e we) : DO X (some e) (wPart we) := fun W tk => ⟨fun pins s σ H Q I ⟨r, env, ah, q, x, he, hh, hw, hq, hx⟩ => (po_some (h W tk)).run pins s σ H Q I
  ⟨r, env, ah, _, x, he, hh, hw, fun d ah1 h1 r1 H1 v k1 hh1 p1 => by
    cases d <;> first | exact h1.elim | skip
    exact ⟨_, p1, hq _ _ h1 r1 H1 k1 hh1⟩, hx⟩⟩
def cutD (l : List D) (lo hi : Option Int) : List D := (l.drop (HT.sIx l.length 0 lo)).take (HT.sIx l.length l.length hi - HT.sIx l.length 0 lo)
theorem cut_rep {r : List Addr} {H : Hp} {l : List D} {vs : List V} (lo hi : Option Int) (h : Reps K r H l vs) : Reps K r H (cutD l lo hi) (cutV vs lo hi) := by
  unfold cutD cutV
  rw [h.length]
  exact (h.drop _).take _
def fSl (d : D) (lo hi : Option Int) (ah : AH) (q : QE) : Prop := match d with
  | .str z => z.length ≤ sizeLine ∧ q (.str (cutS z lo hi)) ah
  | .tup l => q (.tup (cutD l lo hi)) ah
  | .ref n => (match ah[n]? with
    | some (.lst l) => newL (cutD l lo hi) ah q
    | _ => False)
  | _ => False
def wSl (w : WE) (lo hi : WO) : WE := fun env ah q x => w env ah (fun d ah1 => lo env ah1 (fun l ah2 => hi env ah2 (fun h ah3 => fSl d l h ah3 q) x) x) x
theorem cutV_all {xs : List V} {lo hi : Option Int} (h : HT.sIx xs.length 0 lo = 0 ∧ HT.sIx xs.length xs.length hi = xs.length) : cutV xs lo hi = xs := by
  unfold cutV
  rw [h.1, h.2]
  simp
theorem de_slice {lo hi : Option Expr} {wl wh : WO} {p2 : Pos} (ha : DE X e we) (hl : DO X lo wl) (hu : DO X hi wh) : DE X (.Subscript e (.Slice lo hi none p2) pos) (wSl we wl wh) := fun W tk =>
  (pe_slice (sl_str.or (sl_tupA.or sl_list)) (ha W tk) (hl W tk) (hu W tk)).weak fun s H Q ⟨r, env, ah, q, x, he, hh, hw, hq, hx⟩ => by
    refine ⟨r, env, ah, _, x, he, hh, hw, fun d1 ah1 h1 r1 H1 v k1 hh1 p1 => ?_, hx⟩
    refine ⟨r1, env, ah1, _, x, he.mono k1, hh1, h1, fun l ah2 h2 r2 H2 k2 hh2 => ?_, hx.step k1⟩
    refine ⟨r2, env, ah2, _, x, (he.mono k1).mono k2, hh2, h2, fun h ah3 h3 r3 H3 k3 hh3 => ?_, (hx.step k1).step k2⟩
    have p3 := (p1.mono k2).mono k3
    have hq3 := ((hq.step k1).step k2).step k3
    unfold fSl at h3
    split at h3
    · exact .inl ⟨_, p3, h3.1, hq3.here h3.2 hh3 rfl⟩
    · obtain ⟨a, vs, rfl, sq, rv⟩ := p3
      refine .inr (.inl ⟨a, vs, rfl, sq, fun z => ?_, fun _ p hp => newT_ok hh3 (cut_rep l h rv) h3 hq3 hp⟩)
      have c := cut_rep (K := X.K) l h rv
      rw [cutV_all z] at c
      exact hq3.here h3 hh3 ⟨a, vs, rfl, sq, c⟩
    · split at h3
      · obtain ⟨p, e1, rfl⟩ := p3
        obtain ⟨vs, f, rv⟩ := hh3.ob _ _ _ e1 (by assumption)
        exact .inr (.inr ⟨p, vs, rfl, .of f, fun p hp => newL_ok hh3 (cut_rep l h rv) h3 hq3 hp⟩)
      · exact h3.elim
    · exact h3.elim

/-! ### arguments, displays -/
def wNil : WA := fun _ ah q _ => q [] ah
def wCons (w : WE) (r : WA) : WA := fun env ah q x => w env ah (fun d ah1 => r env ah1 (fun ds ah2 => q (d :: ds) ah2) x) x
theorem da_nil : DA X [] wNil := fun W _ => pa_nil.weak fun s H Q ⟨r, env, ah, q, x, he, hh, hw, hq, hx⟩ => hq _ _ hw r H [] Kp.refl hh rfl
theorem da_cons (ha : DE X e we) (hr : DA X es ws) (hs : starEach (e :: es) X.env = (false, eval e X.env) :: starEach es X.env := by rfl) : DA X (e :: es) (wCons we ws) := fun W tk =>
  (pa_cons (ha W tk) (hr W tk) hs).weak fun s H Q ⟨r, env, ah, q, x, he, hh, hw, hq, hx⟩ => by
    refine ⟨r, env, ah, _, x, he, hh, hw, fun d1 ah1 h1 r1 H1 v k1 hh1 p1 => ?_, hx⟩
    refine ⟨r1, env, ah1, _, x, he.mono k1, hh1, h1, fun ds ah2 h2 r2 H2 vs k2 hh2 p2 => ?_, hx.step k1⟩
    exact hq _ _ h2 r2 H2 _ (k1.trans k2) hh2 ⟨v, vs, rfl, p1.mono k2, p2⟩
def wTup (w : WA) : WE := fun env ah q x => w env ah (fun ds ah1 => ds.length ≤ sizeLine ∧ q (.tup ds) ah1) x
theorem de_tup {x1 : Nat} (h : DA X es ws) : DE X (.Tuple es x1 pos) (wTup ws) := fun W tk =>
  (pe_tup (h W tk)).weak fun s H Q ⟨r, env, ah, q, x, he, hh, hw, hq, hx⟩ => by
    refine ⟨r, env, ah, _, x, he, hh, hw, fun ds ah1 h1 r1 H1 vs k1 hh1 p1 => ⟨by rw [p1.length]; exact h1.1, fun p hp => newT_ok hh1 p1 h1.2 (hq.step k1) hp⟩, hx⟩
def wLst (w : WA) : WE := fun env ah q x => w env ah (fun ds ah1 => ds.length ≤ sizeLine ∧ newL ds ah1 q) x
theorem de_lst (h : DA X es ws) : DE X (.List es pos) (wLst ws) := fun W tk =>
  (pe_lst (h W tk)).weak fun s H Q ⟨r, env, ah, q, x, he, hh, hw, hq, hx⟩ => by
    refine ⟨r, env, ah, _, x, he, hh, hw, fun ds ah1 h1 r1 H1 vs k1 hh1 p1 => ⟨by rw [p1.length]; exact h1.1, fun p hp => newL_ok hh1 p1 h1.2 (hq.step k1) hp⟩, hx⟩

/-! ### tests -/
def wTst (w : WE) : WT := fun env ah q x => w env ah (fun d ah1 => match d with
  | .bl b => q b ah1
  | _ => False) x
theorem LE.tst {W : WX} {s : L2.St} {H : Hp} {Q : Bool → Hp → Prop} (h : LT K (wTst we) W s H Q) : LE K we W s H fun v H1 => ∃ k, v = .bl k ∧ Q k H1 := by
  obtain ⟨r, env, ah, q, x, he, hh, hw, hq, hx⟩ := h
  refine ⟨r, env, ah, _, x, he, hh, hw, fun d ah1 h1 r1 H1 v k1 hh1 p1 => ?_, hx⟩
  cases d <;> first | exact h1.elim | skip
  exact ⟨_, p1, hq _ _ h1 r1 H1 k1 hh1⟩
theorem dt_val (h : DE X e we) (he : ∀ whole, isTrue e X.env whole = (do let v ← whole; standAt e.pos; holding [v] (truthy v)) := by intro _; rfl) : DT X e (wTst we) := fun W tk =>
  (pt_val (h W tk) he).weak fun s H Q h => LE.tst h
theorem LT.bin {f : F2} {r2 : R2} {W : WX} {s : L2.St} {H : Hp} {Q : Bool → Hp → Prop} (ho : OpD K r2 f) (h : LT K (wTst (wBin f wa wb)) W s H Q) : tTest (tOp r2 (LE K wa W) (LE K wb W)) s H Q :=
  LE.bin ho (LE.tst h)
theorem dt_cmp {op : CmpOp} {f : F2} (o : Bop X (compareOp op) f) (ha : DE X a wa) (hb : DE X b wb) (hm : behindInMarks op b = false) : DT X (.Compare a [op] [b] pos) (wTst (wBin f wa wb)) := fun W tk => by
  obtain ⟨r2, h1, h2⟩ := o.ex
  exact (pt_cmpR h1 (ha W tk) (hb W tk) hm).weak fun s H Q h => LT.bin h2 h
def wNot (t : WT) : WT := fun env ah q x => t env ah (fun b ah1 => q (!b) ah1) x
theorem dt_not (h : DT X a ta) : DT X (.UnaryOp .Not a pos) (wNot ta) := fun W tk =>
  (pt_not (h W tk)).weak fun s H Q ⟨r, env, ah, q, x, he, hh, hw, hq, hx⟩ => ⟨r, env, ah, _, x, he, hh, hw, fun d ah1 h1 r1 H1 k1 hh1 => hq _ _ h1 r1 H1 k1 hh1, hx⟩
def wAnd (t u : WT) : WT := fun env ah q x => t env ah (fun b ah1 => if b = true then u env ah1 q x else q false ah1) x
def wOr (t u : WT) : WT := fun env ah q x => t env ah (fun b ah1 => if b = true then q true ah1 else u env ah1 q x) x
variable {rest : List Expr}
theorem dw_and1 (h : DT X a ta) : DWt X (.BoolOp .And [a] pos) ta := fun W tk => pw_and1 (h W tk)
theorem dw_or1 (h : DT X a ta) : DWt X (.BoolOp .Or [a] pos) ta := fun W tk => pw_or1 (h W tk)
theorem LT.seq {W : WX} {s : L2.St} {H : Hp} {Q : Bool → Hp → Prop} (h : LT K (wAnd ta tb) W s H Q) : tAnd (LT K ta W) (LT K tb W) s H Q := by
  obtain ⟨r, env, ah, q, x, he, hh, hw, hq, hx⟩ := h
  refine ⟨r, env, ah, _, x, he, hh, hw, fun d ah1 h1 r1 H1 k1 hh1 => ?_, hx⟩
  cases d with
  | true => exact ⟨r1, env, ah1, q, x, he.mono k1, hh1, h1, hq.step k1, hx.step k1⟩
  | false => exact hq _ _ h1 r1 H1 k1 hh1
theorem LT.seqO {W : WX} {s : L2.St} {H : Hp} {Q : Bool → Hp → Prop} (h : LT K (wOr ta tb) W s H Q) : tOr (LT K ta W) (LT K tb W) s H Q := by
  obtain ⟨r, env, ah, q, x, he, hh, hw, hq, hx⟩ := h
  refine ⟨r, env, ah, _, x, he, hh, hw, fun d ah1 h1 r1 H1 k1 hh1 => ?_, hx⟩
  cases d with
  | false => exact ⟨r1, env, ah1, q, x, he.mono k1, hh1, h1, hq.step k1, hx.step k1⟩
  | true => exact hq _ _ h1 r1 H1 k1 hh1
theorem dw_and (h : DT X a ta) (h2 : DWt X (.BoolOp .And (b :: rest) pos) tb) : DWt X (.BoolOp .And (a :: b :: rest) pos) (wAnd ta tb) := fun W tk => (pw_and (h W tk) (h2 W tk)).weak fun s H Q h => LT.seq h
theorem dw_or (h : DT X a ta) (h2 : DWt X (.BoolOp .Or (b :: rest) pos) tb) : DWt X (.BoolOp .Or (a :: b :: rest) pos) (wOr ta tb) := fun W tk => (pw_or (h W tk) (h2 W tk)).weak fun s H Q h => LT.seqO h
theorem DWt.dt (h : DWt X a ta) : DT X a ta := fun W tk => (h W tk).pt
/-- as values -/
def wAndV (a b : WE) : WE := fun env ah q x => a env ah (fun d ah1 => match d with
  | .bl true => b env ah1 q x
  | .bl false => q (.bl false) ah1
  | _ => False) x
def wOrV (a b : WE) : WE := fun env ah q x => a env ah (fun d ah1 => match d with
  | .bl false => b env ah1 q x
  | .bl true => q (.bl true) ah1
  | _ => False) x
def wNotV (a : WE) : WE := fun env ah q x => a env ah (fun d ah1 => match d with
  | .bl b => q (.bl (!b)) ah1
  | _ => False) x
theorem de_one {op : BoolOp} (h : DE X a wa) : DE X (.BoolOp op [a] pos) wa := fun W tk => pe_one (h W tk)
theorem de_and (h : DE X a wa) (h2 : DE X (.BoolOp .And (b :: rest) pos) wb) : DE X (.BoolOp .And (a :: b :: rest) pos) (wAndV wa wb) := fun W tk =>
  (pe_and (h W tk) (h2 W tk)).weak fun s H Q ⟨r, env, ah, q, x, he, hh, hw, hq, hx⟩ => by
    refine ⟨r, env, ah, _, x, he, hh, hw, fun d ah1 h1 r1 H1 v k1 hh1 p1 => ?_, hx⟩
    cases d with
    | bl z =>
      cases z with
      | true => exact ⟨true, p1, ⟨r1, env, ah1, q, x, he.mono k1, hh1, h1, hq.step k1, hx.step k1⟩⟩
      | false => exact ⟨false, p1, hq _ _ h1 r1 H1 _ k1 hh1 rfl⟩
    | _ => exact h1.elim
theorem de_or (h : DE X a wa) (h2 : DE X (.BoolOp .Or (b :: rest) pos) wb) : DE X (.BoolOp .Or (a :: b :: rest) pos) (wOrV wa wb) := fun W tk =>
  (pe_or (h W tk) (h2 W tk)).weak fun s H Q ⟨r, env, ah, q, x, he, hh, hw, hq, hx⟩ => by
    refine ⟨r, env, ah, _, x, he, hh, hw, fun d ah1 h1 r1 H1 v k1 hh1 p1 => ?_, hx⟩
    cases d with
    | bl z =>
      cases z with
      | false => exact ⟨false, p1, ⟨r1, env, ah1, q, x, he.mono k1, hh1, h1, hq.step k1, hx.step k1⟩⟩
      | true => exact ⟨true, p1, hq _ _ h1 r1 H1 _ k1 hh1 rfl⟩
    | _ => exact h1.elim
theorem de_not (h : DE X a wa) : DE X (.UnaryOp .Not a pos) (wNotV wa) := fun W tk =>
  (pe_not (h W tk)).weak fun s H Q ⟨r, env, ah, q, x, he, hh, hw, hq, hx⟩ => by
    refine ⟨r, env, ah, _, x, he, hh, hw, fun d ah1 h1 r1 H1 v k1 hh1 p1 => ?_, hx⟩
    cases d <;> first | exact h1.elim | skip
    exact ⟨_, p1, hq _ _ h1 r1 H1 _ k1 hh1 rfl⟩
def wIfE (t : WT) (a b : WE) : WE := fun env ah q x => t env ah (fun c ah1 => if c = true then a env ah1 q x else b env ah1 q x) x
theorem de_if (hc : DT X c tc) (ha : DE X a wa) (hb : DE X b wb) : DE X (.IfExp c a b pos) (wIfE tc wa wb) := fun W tk =>
  (pe_ifExp (hc W tk) (ha W tk) (hb W tk)).weak fun s H Q ⟨r, env, ah, q, x, he, hh, hw, hq, hx⟩ => by
    refine ⟨r, env, ah, _, x, he, hh, hw, fun d ah1 h1 r1 H1 k1 hh1 => ?_, hx⟩
    cases d with
    | true => exact ⟨r1, env, ah1, q, x, he.mono k1, hh1, h1, hq.step k1, hx.step k1⟩
    | false => exact ⟨r1, env, ah1, q, x, he.mono k1, hh1, h1, hq.step k1, hx.step k1⟩
def wNeg (a : WE) : WE := fun env ah q x => a env ah (fun d ah1 => match d with
  | .int i => q (.int (-i)) ah1
  | _ => False) x
theorem de_neg (h : DE X a wa) : DE X (.UnaryOp .USub a pos) (wNeg wa) := fun W tk =>
  (pe_un un_neg (h W tk)).weak fun s H Q ⟨r, env, ah, q, x, he, hh, hw, hq, hx⟩ => by
    refine ⟨r, env, ah, _, x, he, hh, hw, fun d ah1 h1 r1 H1 v k1 hh1 p1 => ?_, hx⟩
    cases d <;> first | exact h1.elim | skip
    exact ⟨_, p1, hq _ _ h1 r1 H1 _ k1 hh1 rfl⟩
/-- a < b < c -/
def wChain (f g : F2) (a b c : WE) : WE := fun env ah q x => a env ah (fun d1 ah1 => b env ah1 (fun d2 ah2 => f d1 d2 ah2 fun d ah3 => match d with
  | .bl true => c env ah3 (fun d3 ah4 => g d2 d3 ah4 q) x
  | .bl false => q (.bl false) ah3
  | _ => False) x) x
theorem LE.chain {f g : F2} {r2 r3 : R2} {W : WX} {s : L2.St} {H : Hp} {Q : VK} (ho : OpD K r2 f) (ho3 : OpD K r3 g) (h : LE K (wChain f g wa wb wc) W s H Q) : tChain r2 r3 (LE K wa W) (LE K wb W) (LE K wc W) s H Q := by
  obtain ⟨r, env, ah, q, x, he, hh, hw, hq, hx⟩ := h
  refine ⟨r, env, ah, _, x, he, hh, hw, fun d1 ah1 h1 r1 H1 v k1 hh1 p1 => ?_, hx⟩
  refine ⟨r1, env, ah1, _, x, he.mono k1, hh1, h1, fun d2 ah2 h2 r2 H2 u k2 hh2 p2 => ?_, hx.step k1⟩
  refine ho r2 H2 ah2 d1 d2 v u _ _ hh2 (p1.mono k2) p2 h2 fun d ah3 h3 r3 H3 w' k3 hh3 p3 => ?_
  cases d with
  | bl z =>
    have k13 := k1.trans (k2.trans k3)
    cases z with
    | true =>
      refine ⟨true, p3, ⟨r3, env, ah3, _, x, he.mono k13, hh3, h3, fun d4 ah4 h4 r4 H4 u4 k4 hh4 p4 => ?_, hx.step k13⟩⟩
      exact ho3 r4 H4 ah4 d2 d4 u u4 q Q hh4 (p2.mono (k3.trans k4)) p4 h4 (hq.step (k13.trans k4))
    | false => exact ⟨false, p3, hq _ _ h3 r3 H3 _ k13 hh3 rfl⟩
  | _ => exact h3.elim
theorem de_chain {op op' : CmpOp} {f g : F2} (o : Bop X (compareOp op) f) (o' : Bop X (compareOp op') g) (ha : DE X a wa) (hb : DE X b wb) (hc : DE X c wc) (hm : lastMarks [op, op'] [b, c] = false := by with_unfolding_all rfl) :
    DE X (.Compare a [op, op'] [b, c] pos) (wChain f g wa wb wc) := fun W tk => by
  obtain ⟨r2, q1, q2⟩ := o.ex
  obtain ⟨r3, q3, q4⟩ := o'.ex
  exact (pe_chain q1 q3 (ha W tk) (hb W tk) (hc W tk) hm).weak fun s H Q h => LE.chain q2 q4 h
theorem dt_chain {op op' : CmpOp} {f g : F2} (o : Bop X (compareOp op) f) (o' : Bop X (compareOp op') g) (ha : DE X a wa) (hb : DE X b wb) (hc : DE X c wc) (hm : lastMarks [op, op'] [b, c] = false := by with_unfolding_all rfl) :
    DT X (.Compare a [op, op'] [b, c] pos) (wTst (wChain f g wa wb wc)) := fun W tk => by
  obtain ⟨r2, q1, q2⟩ := o.ex
  obtain ⟨r3, q3, q4⟩ := o'.ex
  exact (pt_chain q1 q3 (ha W tk) (hb W tk) (hc W tk) hm).weak fun s H Q h => LE.chain q2 q4 (LE.tst h)
end
end Z
namespace Z
open PySem PySem.Spec PyProof.Rows L2
section
variable {X : Cx} {K : PySem.W.Frag} {pos : Pos} {a b c e : Expr} {es : List Expr} {wa wb wc we : WE} {ta tb tc : WT} {ws : WA} {s1 : Stmt} {ss : List Stmt} {u v w : WS}

/-! ### dicts: an item, a store -/
def valD (kvs : List (Key × D)) (k : Key) : Option D := (kvs.find? fun kv => decide (kv.1 = k)).map (·.2)
def putD (kvs : List (Key × D)) (k : Key) (d : D) : List (Key × D) :=
  if (kvs.any fun kv => decide (kv.1 = k)) = true then kvs.map (fun kv => if kv.1 = k then (kv.1, d) else kv) else kvs ++ [(k, d)]
def keyD : D → Option Key
  | .int i => some (.inl i)
  | .str x => some (.inr x)
  | _ => none
theorem keyD_rep {r : List Addr} {H : Hp} {d : D} {v : V} {k : Key} (h : Rep K r H d v) (e : keyD d = some k) : v = kV k := by
  cases d <;> first | cases e | skip
  · exact h
  · exact h
theorem valD_rep {r : List Addr} {H : Hp} (k : Key) : ∀ {kvs : List (Key × D)} {vs : List (Key × V)} {d : D}, RepF K r H kvs vs → valD kvs k = some d → ∃ v, valV vs k = some v ∧ Rep K r H d v
  | [], _, _, h, e => by cases e
  | (k', d') :: l, _, d, ⟨v, vr, e, p, q⟩, e2 => by
    subst e
    by_cases hk : k' = k
    · refine ⟨v, valV_pos hk, ?_⟩
      have : valD ((k', d') :: l) k = some d' := by simp [valD, List.find?_cons, hk]
      rw [this] at e2; cases e2
      exact p
    · rw [valV_neg (p := (k', v)) hk]
      have : valD ((k', d') :: l) k = valD l k := by simp [valD, List.find?_cons, hk]
      rw [this] at e2
      exact valD_rep k q e2
theorem valD_none {r : List Addr} {H : Hp} (k : Key) : ∀ {kvs : List (Key × D)} {vs : List (Key × V)}, RepF K r H kvs vs → valD kvs k = none → valV vs k = none
  | [], _, h, e => by cases h; rfl
  | (k', d') :: l, _, ⟨v, vr, e, p, q⟩, e2 => by
    subst e
    by_cases hk : k' = k
    · have : valD ((k', d') :: l) k = some d' := by simp [valD, List.find?_cons, hk]
      rw [this] at e2; cases e2
    · rw [valV_neg (p := (k', v)) hk]
      have : valD ((k', d') :: l) k = valD l k := by simp [valD, List.find?_cons, hk]
      rw [this] at e2
      exact valD_none k q e2
theorem RepF.length {α : Type} {r : List Addr} {H : Hp} : ∀ {l : List (α × D)} {vs : List (α × V)}, RepF K r H l vs → vs.length = l.length
  | [], _, h => by cases h; rfl
  | (_, _) :: _, _, ⟨v, vr, e, h, q⟩ => by subst e; simp [RepF.length q]
theorem RepF.append {α : Type} {r : List Addr} {H : Hp} : ∀ {l m : List (α × D)} {vs us : List (α × V)}, RepF K r H l vs → RepF K r H m us → RepF K r H (l ++ m) (vs ++ us)
  | [], _, _, _, h, q => by cases h; exact q
  | (_, _) :: _, _, _, _, ⟨v, vr, e, h, q⟩, p => by subst e; exact ⟨v, _, rfl, h, RepF.append q p⟩
theorem repF_any {r : List Addr} {H : Hp} (k : Key) : ∀ {l : List (Key × D)} {vs : List (Key × V)}, RepF K r H l vs → (vs.any fun kv => decide (kv.1 = k)) = l.any fun kv => decide (kv.1 = k)
  | [], _, h => by cases h; rfl
  | (_, _) :: _, _, ⟨v, vr, e, h, q⟩ => by subst e; simp [repF_any k q]
theorem repF_map {r : List Addr} {H : Hp} (k : Key) {d : D} {v : V} (h : Rep K r H d v) : ∀ {l : List (Key × D)} {vs : List (Key × V)}, RepF K r H l vs → RepF K r H (l.map (fun kv => if kv.1 = k then (kv.1, d) else kv)) (vs.map (fun kv => if kv.1 = k then (kv.1, v) else kv))
  | [], _, h => by cases h; exact rfl
  | (k', _) :: _, _, ⟨v', vr, e, p, q⟩ => by
    subst e
    have ih := repF_map k h q
    by_cases hk : k' = k
    · subst hk
      simp only [List.map_cons, if_pos rfl]
      exact ⟨v, _, rfl, h, ih⟩
    · simp only [List.map_cons, if_neg hk]
      exact ⟨v', _, rfl, p, ih⟩
theorem putD_rep {r : List Addr} {H : Hp} (k : Key) {d : D} {v : V} {l : List (Key × D)} {vs : List (Key × V)} (h : RepF K r H l vs) (p : Rep K r H d v) : RepF K r H (putD l k d) (putK vs k v) := by
  unfold putD putK
  rw [repF_any k h]
  split
  · exact repF_map k p h
  · exact h.append ⟨v, [], rfl, p, rfl⟩
/-- a[i] of a dict as the layer's IxR -/
theorem ix_dict (hu : X.A.units + 1 < cLine) : IxR X (fun x y H Q => ∃ a v, x = .ref a ∧ DGet H a y (some v) ∧ Q v H) := by
  intro value slice pins s σ H x y v u Q I rx ry h hs
  obtain ⟨a, v', rfl, g, q⟩ := h
  obtain rfl : v = Value.ref a := rx
  have hT := dict_typeIs I g
  have h2 : wpAny (model X.prog X.w) X.A (getItem (.ref a) u) (EP X pins σ Q) X.xe s := d_getItem hu I g ry fun w' s3 I3 rw' => ⟨v', H, I3, rw', q⟩
  unfold subscriptTail
  refine wpAny_bind ?_
  rw [getitemInPython_of_ne hT.not_modules]
  refine wpAny_bind (wpAny_specialOf hT PySem.F.slot_dict_getitem.lookup ?_)
  have fin : wpAny (model X.prog X.w) X.A (subscripted slice false (.ref a) u) (fun r s3 => wpAny (model X.prog X.w) X.A (letTemporaryGo value (.ref a) r >>= fun _ => pure r) (EP X pins σ Q) X.xe s3) X.xe s := by
    rw [hs]
    exact wpAny_operating (wpAny_mono h2 (fun r s3 h3 => wpAny_bind (wpAny_letTemporaryGo (wpAny_pure h3))) fun _ _ x => x)
  first
    | exact wpAny_pure (wpAny_bind fin)
    | exact wpAny_bind (wpAny_pure (wpAny_bind fin))
    | exact wpAny_bind fin
/-- an item of a sequence or a dict -/
def fAt : F2 := fun d1 d2 ah q => match d1, d2 with
  | .ref n, .str z => (match ah[n]? with
    | some (.dct kvs) => (match valD kvs (.inr z) with
      | some d => q d ah
      | none => False)
    | _ => False)
  | d1, d2 => fIx d1 d2 ah q
theorem de_at (hu : X.A.units + 1 < cLine) (ha : DE X a wa) (hb : DE X b wb) (hs : PlainIx b) : DE X (.Subscript a b pos) (wBin fAt wa wb) := fun W tk =>
  (pe_ix (ix_seq.or (ix_dict hu)) (ha W tk) (hb W tk) hs).weak fun s H Q h => LE.bin (fun r H ah d1 d2 v u q Q hh p1 p2 w hq => by
    unfold fAt at w
    split at w
    · split at w
      · rename_i n z _ kvs e
        split at w
        · rename_i d e2
          obtain ⟨p, e1, rfl⟩ := p1
          obtain ⟨vs, f, rv⟩ := hh.ob _ _ _ e1 e
          obtain ⟨v', e3, rd⟩ := valD_rep _ rv e2
          exact .inr ⟨p, v', rfl, .inl ⟨vs, .inr z, .inl f, p2, e3.symm⟩, hq.here w hh rd⟩
        · exact w.elim
      · exact w.elim
    · exact .inl (ixD r H ah _ _ v u q Q hh p1 p2 w hq)) h

/-! ### blocks, small statements -/
def wNext : WS := fun env ah dn _ => dn.nx env ah
def wSeq (u v : WS) : WS := fun env ah dn x => u env ah { dn with nx := fun env1 ah1 => v env1 ah1 dn x } x
theorem dss_nil : DSs X [] wNext := fun W _ => pss_nil.weak fun Dn s H ⟨r, env, ah, dn, x, he, hh, hw, hd, hx⟩ => hd.nx _ _ hw r H s Kp.refl hh he
theorem LS.seq {W : WX} {Dn : Ends} {s : L2.St} {H : Hp} (h : LS K (wSeq u v) W Dn s H) : tSeq (LS K u W) (LS K v W) Dn s H := by
  obtain ⟨r, env, ah, dn, x, he, hh, hw, hd, hx⟩ := h
  exact ⟨r, env, ah, _, x, he, hh, hw, ⟨fun env1 ah1 h1 r1 H1 s1 k1 hh1 he1 => ⟨r1, env1, ah1, dn, x, he1, hh1, h1, hd.step k1, hx.step k1⟩, hd.rt, hd.bk, hd.ct⟩, hx⟩
theorem dss_cons (h1 : DS X s1 u) (h2 : DSs X ss v) : DSs X (s1 :: ss) (wSeq u v) := fun W tk => (pss_cons (h1 W tk) (h2 W tk)).weak fun Dn s H h => LS.seq h
theorem dss_one (h1 : DS X s1 u) : DSs X [s1] u := fun W tk => pss_one (h1 W tk)
theorem ds_pass : DS X (.Pass pos) wNext := fun W _ => ps_pass.weak fun Dn s H ⟨r, env, ah, dn, x, he, hh, hw, hd, hx⟩ => hd.nx _ _ hw r H s Kp.refl hh he
def wNever : WS := fun _ _ _ _ => False
theorem ds_never : DS X s1 wNever := fun W _ => ps_never.weak fun Dn s H ⟨r, env, ah, dn, x, he, hh, hw, hd, hx⟩ => hw
theorem dss_never : DSs X ss wNever := fun W _ => pss_never.weak fun Dn s H ⟨r, env, ah, dn, x, he, hh, hw, hd, hx⟩ => hw
def wBreak : WS := fun env ah dn _ => dn.bk env ah
def wCont : WS := fun env ah dn _ => dn.ct env ah
theorem ds_break : DS X (.Break pos) wBreak := fun W _ => ps_break.weak fun Dn s H ⟨r, env, ah, dn, x, he, hh, hw, hd, hx⟩ => hd.bk _ _ hw r H s Kp.refl hh he
theorem ds_continue : DS X (.Continue pos) wCont := fun W _ => ps_continue.weak fun Dn s H ⟨r, env, ah, dn, x, he, hh, hw, hd, hx⟩ => hd.ct _ _ hw r H s Kp.refl hh he
/-- a statement's own exceptions come at its slots -/
abbrev atE (x : QXS) (env : En) : QX := fun e ah => x e env ah
theorem CnXS.at_ {r : List Addr} {H : Hp} {env : En} {s : L2.St} {x : QXS} {W : WX} (he : ERep K r H env s) (h : CnXS K r H x W) : CnX K r H (atE x env) (fun c d H' => W c d s H') :=
  fun C fs ah a r' H' dx k hh q => h C fs env ah a r' H' s dx k hh (he.mono k) q
def wExpr (w : WE) : WS := fun env ah dn x => w env ah (fun _ ah1 => dn.nx env ah1) (atE x env)
theorem ds_expr (h : DE X e we) (hs : swapsWith e none pos.line X.env = pure false := by rfl) : DS X (.Expr e pos) (wExpr we) := fun W tk =>
  (ps_expr (h W tk) hs).weak fun Dn s H ⟨r, env, ah, dn, x, he, hh, hw, hd, hx⟩ =>
    ⟨r, env, ah, _, _, he, hh, hw, fun d ah1 h1 r1 H1 v k1 hh1 p1 => hd.nx _ _ h1 r1 H1 s k1 hh1 (he.mono k1), hx.at_ he⟩
def wRet (w : WE) : WS := fun env ah dn x => w env ah dn.rt (atE x env)
theorem ds_ret (h : DE X e we) : DS X (.Return (some e) pos) (wRet we) := fun W tk =>
  (ps_ret (h W tk)).weak fun Dn s H ⟨r, env, ah, dn, x, he, hh, hw, hd, hx⟩ => ⟨r, env, ah, _, _, he, hh, hw, hd.rt, hx.at_ he⟩
def wRetN : WS := fun _ ah dn _ => dn.rt .non ah
theorem ds_retN : DS X (.Return none pos) wRetN := fun W tk =>
  ps_retN.weak fun Dn s H ⟨r, env, ah, dn, x, he, hh, hw, hd, hx⟩ => hd.rt.here hw hh rfl
def wIf (t : WT) (u v : WS) : WS := fun env ah dn x => t env ah (fun b ah1 => if b = true then u env ah1 dn x else v env ah1 dn x) (atE x env)
theorem ds_if {sa sb : List Stmt} (hc : DT X c tc) (ha : DSs X sa u) (hb : DSs X sb v) : DS X (.If c sa sb pos) (wIf tc u v) := fun W tk =>
  (ps_if (hc W tk) (ha W tk) (hb W tk)).weak fun Dn s H ⟨r, env, ah, dn, x, he, hh, hw, hd, hx⟩ => by
    refine ⟨r, env, ah, _, _, he, hh, hw, fun d ah1 h1 r1 H1 k1 hh1 => ?_, hx.at_ he⟩
    cases d with
    | true => exact ⟨r1, env, ah1, dn, x, he.mono k1, hh1, h1, hd.step k1, hx.step k1⟩
    | false => exact ⟨r1, env, ah1, dn, x, he.mono k1, hh1, h1, hd.step k1, hx.step k1⟩

/-! ### targets -/
abbrev WG := D → En → AH → (En → AH → Prop) → Prop
abbrev WGs := List D → En → AH → (En → AH → Prop) → Prop
def LG (K : PySem.W.Frag) (g : WG) : TG := fun v s H Q => ∃ r env ah d q, ERep K r H env s ∧ HRep K r H ah ∧ Rep K r H d v ∧ g d env ah q ∧ CnS K r H q Q
def LGs (K : PySem.W.Frag) (g : WGs) : TGs := fun v s H Q => ∃ r env ah d q, ERep K r H env s ∧ HRep K r H ah ∧ Reps K r H d v ∧ g d env ah q ∧ CnS K r H q Q
def DG (X : Cx) (e : Expr) (g : WG) : Prop := PG X e (LG X.K g)
def DGs (X : Cx) (es : List Expr) (g : WGs) : Prop := PGs X es (LGs X.K g)
theorem _root_.L2.PG.weak {e : Expr} {t t' : TG} (h : PG X e t) (i : ∀ v s H Q, t' v s H Q → t v s H Q) : PG X e t' := ⟨fun pins s σ H v u Q I rv q => h.run pins s σ H v u Q I rv (i v σ H Q q)⟩
theorem _root_.L2.PGs.weak {e : List Expr} {t t' : TGs} (h : PGs X e t) (i : ∀ v s H Q, t' v s H Q → t v s H Q) : PGs X e t' := ⟨fun pins s σ H v u Q I rv q => h.run pins s σ H v u Q I rv (i v σ H Q q)⟩
def gN (i : Nat) : WG := fun d env ah q => q (Z.st env i d) ah
theorem dg_name {i : Nat} {x : Str} (hN : X.N.Nodup) (hi : X.N[i]? = some x) (hx : Loc X.env.scope x) (hf : X.fn x = true ∨ X.env.scope.names.lookup x = some .local := by first | exact .inl rfl | exact .inr rfl | assumption) : DG X (.Name x pos) (gN i) :=
  (pg_name hN hi hx hf).weak fun v s H Q ⟨r, env, ah, d, q, he, hh, p, hg, hq⟩ => hq _ _ hg r H _ Kp.refl hh (he.set i p)
def gsN : WGs := fun ds env ah q => match ds with
  | [] => q env ah
  | _ => False
def gsC (g : WG) (gs : WGs) : WGs := fun ds env ah q => match ds with
  | d :: l => g d env ah fun env1 ah1 => gs l env1 ah1 q
  | _ => False
theorem dgs_nil : DGs X [] gsN := pgs_nil.weak fun v s H Q ⟨r, env, ah, d, q, he, hh, p, hg, hq⟩ => by
  cases d with
  | nil => exact ⟨p, hq _ _ hg r H _ Kp.refl hh he⟩
  | cons _ _ => exact hg.elim
theorem dgs_cons {g : WG} {gs : WGs} (h1 : DG X e g) (h2 : DGs X es gs) (hs : (assignEach (e :: es) X.env).map (·.2) = assign e X.env :: (assignEach es X.env).map (·.2) := by rfl) : DGs X (e :: es) (gsC g gs) :=
  (pgs_cons h1 h2 hs).weak fun v s H Q ⟨r, env, ah, d, q, he, hh, p, hg, hq⟩ => by
    cases d with
    | nil => exact hg.elim
    | cons d l =>
      obtain ⟨v, vr, e, p1, p2⟩ := p
      exact ⟨v, vr, e, r, env, ah, d, _, he, hh, p1, hg, fun env1 ah1 h1 r1 H1 s1 k1 hh1 he1 => ⟨r1, env1, ah1, l, q, he1, hh1, p2.mono k1, h1, hq.step k1⟩⟩
def gT (n : Nat) (gs : WGs) : WG := fun d env ah q => match d with
  | .tup l => l.length = n ∧ gs l env ah q
  | _ => False
theorem dg_tup {gs : WGs} {k n : Nat} (hc : X.calm = true) (h : DGs X es gs) (hn : (assignEach es X.env).length = n := by rfl) (hst : (assignEach es X.env).findIdx? (·.1) = none := by rfl) : DG X (.Tuple es k pos) (gT n gs) :=
  (pg_tup hc h hn hst).weak fun v s H Q ⟨r, env, ah, d, q, he, hh, p, hg, hq⟩ => by
    cases d with
    | tup l =>
      obtain ⟨a, xs, rfl, sq, rv⟩ := p
      exact ⟨a, xs, rfl, sq, by rw [rv.length]; exact hg.1, r, env, ah, l, q, he, hh, rv, hg.2, hq⟩
    | _ => exact hg.elim
def wAsg (w : WE) (g : WG) : WS := fun env ah dn x => w env ah (fun d ah1 => g d env ah1 dn.nx) (atE x env)
theorem ds_asg {tg : Expr} {g : WG} (he : DE X e we) (hg : DG X tg g) (hs : swapsWithSole [tg] e pos.line X.env = pure false := by rfl) (hw : swappedStores [tg] e X.env = pure none := by rfl)
    (h1 : (assignEach [tg] X.env).map (·.2) = [assign tg X.env] := by rfl) : DS X (.Assign [tg] e pos) (wAsg we g) := fun W tk =>
  (ps_asg (he W tk) hg hs hw h1).weak fun Dn s H ⟨r, env, ah, dn, x, he, hh, hw, hd, hx⟩ =>
    ⟨r, env, ah, _, _, he, hh, hw, fun d ah1 h1 r1 H1 v k1 hh1 p1 => ⟨r1, env, ah1, d, _, he.mono k1, hh1, p1, h1, hd.nx.step k1⟩, hx.at_ he⟩
theorem ds_set {i : Nat} {x : Str} {pos' : Pos} (hN : X.N.Nodup) (hi : X.N[i]? = some x) (hx : Loc X.env.scope x) (he : DE X e we) (hs : swapsWith e (some (.Name x pos')) pos.line X.env = pure false := by rfl)
    (hf : X.fn x = true ∨ X.env.scope.names.lookup x = some .local := by first | exact .inl rfl | exact .inr rfl | assumption) : DS X (.Assign [.Name x pos'] e pos) (wAsg we (gN i)) := fun W tk =>
  (ps_set hN hi hx (he W tk) hs hf).weak fun Dn s H ⟨r, env, ah, dn, x, he, hh, hw, hd, hx⟩ =>
    ⟨r, env, ah, _, _, he, hh, hw, fun d ah1 h1 r1 H1 v k1 hh1 p1 => hd.nx _ _ h1 r1 H1 _ k1 hh1 ((he.mono k1).set i p1), hx.at_ he⟩
/-- a, b = x, y of plain local names -/
def wPar (i j : Nat) (w : WA) : WS := fun env ah dn x => w env ah (fun ds ah1 => match ds with
  | [d, d'] => dn.nx (Z.st (Z.st env i d) j d') ah1
  | _ => False) (atE x env)
theorem ds_par {i j : Nat} {x y : Str} {px py pt : Pos} {kt k2 pt2} (hc : X.calm = true) (hN : X.N.Nodup) (hi : X.N[i]? = some x) (hj : X.N[j]? = some y) (hij : i ≠ j)
    (hx : X.env.scope.names.lookup x = some .local) (hy : X.env.scope.names.lookup y = some .local) (ha : DA X [a, b] ws)
    (hw : swappedStores [.Tuple [.Name x px, .Name y py] kt pt] (.Tuple [a, b] k2 pt2) X.env = pure (some [x, y]))
    (hs : swapsWithSole [.Tuple [.Name x px, .Name y py] kt pt] (.Tuple [a, b] k2 pt2) pos.line X.env = pure false := by rfl) :
    DS X (.Assign [.Tuple [.Name x px, .Name y py] kt pt] (.Tuple [a, b] k2 pt2) pos) (wPar i j ws) := fun W tk =>
  (ps_par hc hN hi hj hij hx hy (ha W tk) hw hs).weak fun Dn s H ⟨r, env, ah, dn, x, he, hh, hw, hd, hx⟩ =>
    ⟨r, env, ah, _, _, he, hh, hw, fun ds ah1 h1 r1 H1 vs k1 hh1 p1 => by
      dsimp only at h1
      split at h1
      · obtain ⟨v1, vr, rfl, q1, v2, vr2, rfl, q2, rfl⟩ := p1
        exact ⟨v1, v2, rfl, hd.nx _ _ h1 r1 H1 _ k1 hh1 (((he.mono k1).set i q1).set j q2)⟩
      · exact h1.elim, hx.at_ he⟩
def wPar3 (i j l : Nat) (w : WA) : WS := fun env ah dn x => w env ah (fun ds ah1 => match ds with
  | [d, d', d2] => dn.nx (Z.st (Z.st (Z.st env i d) j d') l d2) ah1
  | _ => False) (atE x env)
theorem ds_par3 {i j l : Nat} {x y z : Str} {px py pz pt : Pos} {kt k2 pt2} (hc : X.calm = true) (hN : X.N.Nodup) (hi : X.N[i]? = some x) (hj : X.N[j]? = some y) (hl : X.N[l]? = some z) (hij : i ≠ j) (hil : i ≠ l) (hjl : j ≠ l)
    (hx : X.env.scope.names.lookup x = some .local) (hy : X.env.scope.names.lookup y = some .local) (hz : X.env.scope.names.lookup z = some .local) (ha : DA X [a, b, c] ws)
    (hw : swappedStores [.Tuple [.Name x px, .Name y py, .Name z pz] kt pt] (.Tuple [a, b, c] k2 pt2) X.env = pure (some [x, y, z]))
    (hs : swapsWithSole [.Tuple [.Name x px, .Name y py, .Name z pz] kt pt] (.Tuple [a, b, c] k2 pt2) pos.line X.env = pure false := by rfl) :
    DS X (.Assign [.Tuple [.Name x px, .Name y py, .Name z pz] kt pt] (.Tuple [a, b, c] k2 pt2) pos) (wPar3 i j l ws) := fun W tk =>
  (ps_par3 hc hN hi hj hl hij hil hjl hx hy hz (ha W tk) hw hs).weak fun Dn s H ⟨r, env, ah, dn, x, he, hh, hw, hd, hx⟩ =>
    ⟨r, env, ah, _, _, he, hh, hw, fun ds ah1 h1 r1 H1 vs k1 hh1 p1 => by
      dsimp only at h1
      split at h1
      · obtain ⟨v1, vr, rfl, q1, v2, vr2, rfl, q2, v3, vr3, rfl, q3, rfl⟩ := p1
        exact ⟨v1, v2, v3, rfl, hd.nx _ _ h1 r1 H1 _ k1 hh1 ((((he.mono k1).set i q1).set j q2).set l q3)⟩
      · exact h1.elim, hx.at_ he⟩
/-- x op= e, of ints -/
def wAug (i : Nat) (f : F2) (w : WE) : WS := fun env ah dn x => match gt env i with
  | some d => w env ah (fun d2 ah1 => f d d2 ah1 fun d3 ah2 => dn.nx (Z.st env i d3) ah2) (atE x env)
  | none => False
def PIpD (X : Cx) (op : Operator) (f : F2) : Prop := ∃ t, PIp X op t ∧ OpD X.K t f
def fIAdd : F2 := fun d1 d2 ah q => match d1, d2 with
  | .int i, .int j => q (.int (i + j)) ah
  | _, _ => False
theorem ip_addD : PIpD X .Add fIAdd := ⟨_, ip_add, fun r H ah d1 d2 v u q Q hh p1 p2 w hq => by
  unfold fIAdd at w
  split at w
  · exact ⟨_, _, p1, p2, hq.here w hh rfl⟩
  · exact w.elim⟩
theorem ds_aug {i : Nat} {x : Str} {op : Operator} {f : F2} {pos' : Pos} (hN : X.N.Nodup) (hi : X.N[i]? = some x) (hx : Loc X.env.scope x) (he : DE X e we) (ho : PIpD X op f) (hf : X.fn x = true ∨ X.env.scope.names.lookup x = some .local := by first | exact .inl rfl | exact .inr rfl | assumption) :
    DS X (.AugAssign (.Name x pos') op e pos) (wAug i f we) := fun W tk => by
  obtain ⟨t, h1, h2⟩ := ho
  refine (ps_aug hN hi hx (he W tk) h1 hf).weak fun Dn s H ⟨r, env, ah, dn, x, he, hh, hw, hd, hx⟩ => ?_
  unfold wAug at hw
  split at hw
  · rename_i d e
    obtain ⟨v, e1, p⟩ := he.get e
    refine ⟨v, e1, r, env, ah, _, _, he, hh, hw, fun d2 ah1 h3 r1 H1 u k1 hh1 p1 => ?_, hx.at_ he⟩
    exact h2 r1 H1 ah1 d d2 v u _ _ hh1 (p.mono k1) p1 h3 fun d3 ah2 h4 r2 H2 z k2 hh2 p2 => hd.nx _ _ h4 r2 H2 _ (k1.trans k2) hh2 (((he.mono k1).mono k2).set i p2)
  · exact hw.elim

/-! ### o[i] = e -/
def fPut (o i d : D) (ah : AH) (k : AH → Prop) : Prop := match o, i with
  | .ref n, .str z => (match ah[n]? with
    | some (.dct kvs) => kvs.length < sizeLine ∧ k (ah.set n (.dct (putD kvs (.inr z) d)))
    | _ => False)
  | .ref n, .int i => (match ah[n]? with
    | some (.lst xs) => (match ixN xs.length i with
      | some j => k (ah.set n (.lst (xs.set j d)))
      | none => False)
    | _ => False)
  | _, _ => False
def rPut (X : Cx) : TSet := fun o i v H Q => rSetL o i v H Q ∨ ∃ a H', o = .ref a ∧ DPut H a i v H' ∧ Q H'
theorem set_any (hu : X.A.units + 1 < cLine) : PSet X (rPut X) := by
  intro pins s σ H o i v ov iv u Q I ro ri rv h
  rcases h with h | ⟨a, H', rfl, g, q⟩
  · exact set_list pins s σ H o i v ov iv u Q I ro ri rv h
  · obtain rfl : ov = Value.ref a := ro
    exact d_setItem hu I g ri rv fun s4 I4 => ⟨H', I4, q⟩
theorem put_ok {r : List Addr} {H : Hp} {ah : AH} {o i d : D} {ov iv v : V} {k : AH → Prop} {Q : Hp → Prop} (hh : HRep K r H ah) (po : Rep K r H o ov) (pi : Rep K r H i iv) (pd : Rep K r H d v) (w : fPut o i d ah k)
    (hq : ∀ ah', k ah' → ∀ H', Kp K r H r H' → HRep K r H' ah' → Q H') : rPut X ov iv v H Q := by
  unfold fPut at w
  split at w
  · split at w
    · rename_i n z _ kvs e
      obtain ⟨p, e1, rfl⟩ := po
      obtain ⟨vs, f, rv⟩ := hh.ob _ _ _ e1 e
      have kw := Kp.write (u := .dK (putK vs (.inr z) v)) hh (List.mem_of_getElem? e1)
      refine .inr ⟨p, _, rfl, .inl ⟨vs, .inr z, f, pi, by rw [rv.length]; exact w.1, rfl⟩, hq _ w.2 _ kw (hh.set e1 ⟨_, upd_same, (putD_rep _ rv pd).mono kw⟩)⟩
    · exact w.elim
  · split at w
    · rename_i n j _ xs e
      split at w
      · rename_i j' e2
        obtain ⟨p, e1, rfl⟩ := po
        obtain ⟨vs, f, rv⟩ := hh.ob _ _ _ e1 e
        have kw := Kp.write (u := .lst (vs.set j' v)) hh (List.mem_of_getElem? e1)
        exact .inl ⟨p, vs, j, j', rfl, pi, f, by rw [rv.length]; exact e2, hq _ w _ kw (hh.set e1 ⟨_, upd_same, (rv.set j' pd).mono kw⟩)⟩
      · exact w.elim
    · exact w.elim
  · exact w.elim
def wPut (v o i : WE) : WS := fun env ah dn x => v env ah (fun d ah1 => o env ah1 (fun d1 ah2 => i env ah2 (fun d2 ah3 => fPut d1 d2 d ah3 fun ah4 => dn.nx env ah4) (atE x env)) (atE x env)) (atE x env)
theorem ds_put {pos' : Pos} (hu : X.A.units + 1 < cLine) (hv : DE X e we) (ho : DE X a wa) (hi : DE X b wb)
    (ha : ∀ v, assign (.Subscript a b pos') X.env v = (do
      let ov ← holding [v] (eval a X.env)
      let iv ← holding [v, ov] (eval b X.env)
      standAt pos'
      holding [v, ov, iv] (setItem ov iv v)
      release [v, ov, iv] []) := by intro _; rfl)
    (hs : swapsWithSole [.Subscript a b pos'] e pos.line X.env = pure false := by rfl) (hw : swappedStores [.Subscript a b pos'] e X.env = pure none := by rfl)
    (h1 : (assignEach [.Subscript a b pos'] X.env).map (·.2) = [assign (.Subscript a b pos') X.env] := by rfl) : DS X (.Assign [.Subscript a b pos'] e pos) (wPut we wa wb) := fun W tk =>
  (ps_asg (hv W tk) (pg_sub (ho W tk) (hi W tk) (set_any hu) ha) hs hw h1).weak fun Dn s H ⟨r, env, ah, dn, x, he, hh, hw, hd, hx⟩ => by
    refine ⟨r, env, ah, _, _, he, hh, hw, fun d ah1 h1 r1 H1 v k1 hh1 p1 => ?_, hx.at_ he⟩
    have he1 := he.mono k1
    refine ⟨r1, env, ah1, _, _, he1, hh1, h1, fun d1 ah2 h2 r2 H2 o k2 hh2 p2 => ?_, (hx.step k1).at_ he1⟩
    have he2 := he1.mono k2
    refine ⟨r2, env, ah2, _, _, he2, hh2, h2, fun d2 ah3 h3 r3 H3 i k3 hh3 p3 => ?_, ((hx.step k1).step k2).at_ he2⟩
    exact put_ok hh3 (p2.mono k3) p3 ((p1.mono k2).mono k3) h3 fun ah4 h4 H4 k4 hh4 => hd.nx _ _ h4 r3 H4 s (k1.trans (k2.trans (k3.trans k4))) hh4 ((he2.mono k3).mono k4)
end
end Z
namespace Z
open PySem PySem.Spec PyProof.Rows L2
section
variable {X : Cx} {K : PySem.W.Frag} {pos : Pos} {a b c e tg : Expr} {es : List Expr} {wa wb wc we : WE} {ta tb tc : WT} {ws : WA} {s1 : Stmt} {ss : List Stmt} {u v w : WS}

/-! ### what is walked: its items, and that it stands -/
structure DIt where
  items : List D
  ok : AH → Prop
abbrev WI := En → AH → (DIt → AH → Prop) → QX → Prop
structure JRep (K : PySem.W.Frag) (r0 : List Addr) (H0 : Hp) (J : It) (it : DIt) : Prop where
  go : ∀ (r : List Addr) (H : Hp) (ah : AH) (i : Nat) (d : D), Kp K r0 H0 r H → HRep K r H ah → it.ok ah → it.items[i]? = some d → J.go i H ∧ ∀ x H', J.yld i H x H' → Kp K r H r H' ∧ HRep K r H' ah ∧ Rep K r H' d x
  stop : ∀ (r : List Addr) (H : Hp) (ah : AH) (i : Nat), Kp K r0 H0 r H → HRep K r H ah → it.ok ah → it.items.length ≤ i → J.stop i H
def CnI (K : PySem.W.Frag) (r : List Addr) (H : Hp) (q : DIt → AH → Prop) (R : It → Hp → Prop) : Prop := ∀ it ah, q it ah → ∀ r' H' J, Kp K r H r' H' → HRep K r' H' ah → JRep K r' H' J it → R J H'
def LI (K : PySem.W.Frag) (w : WI) (W : WX) : TI := fun s H R => ∃ r env ah q x, ERep K r H env s ∧ HRep K r H ah ∧ w env ah q x ∧ CnI K r H q R ∧ CnX K r H x (fun c d H' => W c d s H')
def DI (X : Cx) (tg iter : Expr) (w : WI) : Prop := ∀ W, Takes X W → PI X tg iter (LI X.K w W)
theorem _root_.L2.PI.weak {t t' : TI} (h : PI X tg e t) (i : ∀ s H R, t' s H R → t s H R) : PI X tg e t' := ⟨fun pins s σ H R I q => h.run pins s σ H R I (i σ H R q)⟩
def tAny (K : PySem.W.Frag) (te : TE) : TI := fun σ H R => te σ H fun x H1 =>
  (∃ a xs, x = .ref a ∧ SqL K H1 a xs ∧ R (Itl K a) H1) ∨ (∃ a xs, x = .ref a ∧ SqT K H1 a xs ∧ R (Itt K a) H1) ∨ ∃ z, x = .str z ∧ R (Its z) H1
theorem pi_any {te : TE} (h : PE X e te) : PI X tg e (tAny X.K te) := by
  refine ⟨fun pins s σ H R I q => thn (h.run pins s σ H _ I q) fun v s2 ⟨x, H2, I2, rv, w⟩ => ?_⟩
  rcases w with ⟨a, xs, rfl, sq, w⟩ | ⟨a, xs, rfl, sq, w⟩ | ⟨z, rfl, w⟩
  · cases rv
    obtain ⟨its, r1, pl, _⟩ := I2.list sq
    exact wpAny_pyIter_list pl.isList (pi_one (tk := s2.toks) I2 _ (turn_list a _) ⟨_, Heap.get?_push_size _ rfl, rfl, rfl⟩ w)
  · cases rv
    obtain ⟨its, r1, pl, _⟩ := I2.tuple sq
    exact wpAny_pyIter_tuple (show s2.heap.IsTuple a its.toArray from pl) (pi_one (tk := s2.toks) I2 _ (turn_tuple a _) ⟨_, Heap.get?_push_size _ rfl, rfl, rfl⟩ w)
  · obtain ⟨t, rfl⟩ := rv
    cases hz : z.cps.all (· < 128) with
    | false => exact wpAny_pyIter_wide hz (pi_one (tk := s2.toks) I2 _ (turn_str _ z t "str_iterator" (.inr rfl)) ⟨_, Heap.get?_push_size _ rfl, rfl, rfl⟩ w)
    | true => exact wpAny_pyIter_ascii hz (pi_one (tk := s2.toks) I2 _ (turn_str _ z t "str_ascii_iterator" (.inl rfl)) ⟨_, Heap.get?_push_size _ rfl, rfl, rfl⟩ w)
def signs (z : Str) : List D := z.cps.toList.map fun c => D.str ⟨#[c]⟩
def fIter (d : D) (ah : AH) (q : DIt → AH → Prop) : Prop := match d with
  | .tup l => q ⟨l, fun _ => True⟩ ah
  | .frl l => q ⟨l, fun _ => True⟩ ah
  | .ref n => (match ah[n]? with
    | some (.lst l) => q ⟨l, fun ah' => ah'[n]? = some (.lst l)⟩ ah
    | _ => False)
  | .str z => q ⟨signs z, fun _ => True⟩ ah
  | _ => False
def wIter (w : WE) : WI := fun env ah q x => w env ah (fun d ah1 => fIter d ah1 q) x
theorem jrep_tup {r : List Addr} {H : Hp} {a : Addr} {xs : List V} {l : List D} (sq : SqT K H a xs) (rv : Reps K r H l xs) : JRep K r H (Itt K a) ⟨l, fun _ => True⟩ where
  go := fun r1 H1 ah i d k hh _ e => by
    obtain ⟨v, e1, p⟩ := (rv.mono k).get e
    refine ⟨⟨xs, v, k.tup _ _ sq, e1⟩, fun x H' y => ?_⟩
    obtain ⟨rfl, y⟩ := y
    have e2 := y xs (k.tup _ _ sq)
    rw [e1] at e2; cases e2
    exact ⟨Kp.refl, hh, p⟩
  stop := fun r1 H1 ah i k hh _ e => ⟨xs, k.tup _ _ sq, by rw [rv.length]; exact e⟩
theorem jrep_frl {r : List Addr} {H : Hp} {a : Addr} {xs : List V} {l : List D} (sq : SqF K H a xs) (rv : Reps K r H l xs) : JRep K r H (Itl K a) ⟨l, fun _ => True⟩ where
  go := fun r1 H1 ah i d k hh _ e => by
    obtain ⟨v, e1, p⟩ := (rv.mono k).get e
    refine ⟨⟨xs, v, (k.frl _ _ sq).sq, e1⟩, fun x H' y => ?_⟩
    obtain ⟨rfl, y⟩ := y
    have e2 := y xs (k.frl _ _ sq).sq
    rw [e1] at e2; cases e2
    exact ⟨Kp.refl, hh, p⟩
  stop := fun r1 H1 ah i k hh _ e => ⟨xs, (k.frl _ _ sq).sq, by rw [rv.length]; exact e⟩
theorem jrep_lst {r : List Addr} {H : Hp} {a : Addr} {n : Nat} {l : List D} (e0 : r[n]? = some a) : JRep K r H (Itl K a) ⟨l, fun ah' => ah'[n]? = some (.lst l)⟩ where
  go := fun r1 H1 ah i d k hh ok e => by
    obtain ⟨vs, f, rv⟩ := hh.ob _ _ _ (k.pre _ _ e0) ok
    obtain ⟨v, e1, p⟩ := rv.get e
    refine ⟨⟨vs, v, .of f, e1⟩, fun x H' y => ?_⟩
    obtain ⟨rfl, y⟩ := y
    have e2 := y vs (.of f)
    rw [e1] at e2; cases e2
    exact ⟨Kp.refl, hh, p⟩
  stop := fun r1 H1 ah i k hh ok e => by
    obtain ⟨vs, f, rv⟩ := hh.ob _ _ _ (k.pre _ _ e0) ok
    exact ⟨vs, .of f, by rw [rv.length]; exact e⟩
theorem jrep_str {r : List Addr} {H : Hp} {z : Str} : JRep K r H (Its z) ⟨signs z, fun _ => True⟩ where
  go := fun r1 H1 ah i d k hh _ e => by
    unfold signs at e
    simp only [List.getElem?_map, Option.map_eq_some_iff] at e
    obtain ⟨c, e1, rfl⟩ := e
    have hi : i < z.cps.size := by
      have := (List.getElem?_eq_some_iff.mp e1).1
      simpa using this
    refine ⟨hi, fun x H' y => ?_⟩
    obtain ⟨rfl, c', e2, rfl⟩ := y
    have : c = c' := by
      rw [← Array.getElem?_toList, e1] at e2
      exact Option.some.inj e2
    subst this
    exact ⟨Kp.refl, hh, rfl⟩
  stop := fun r1 H1 ah i k hh _ e => by
    show z.cps.size ≤ i
    unfold signs at e
    simpa using e
theorem di_val (h : DE X e we) : DI X tg e (wIter we) := fun W tk =>
  (pi_any (h W tk)).weak fun s H R ⟨r, env, ah, q, x, he, hh, hw, hq, hx⟩ => by
    refine ⟨r, env, ah, _, x, he, hh, hw, fun d ah1 h1 r1 H1 v k1 hh1 p1 => ?_, hx⟩
    dsimp only at h1
    unfold fIter at h1
    split at h1
    · obtain ⟨a, xs, rfl, sq, rv⟩ := p1
      exact .inr (.inl ⟨a, xs, rfl, sq, hq _ _ h1 r1 H1 _ k1 hh1 (jrep_tup sq rv)⟩)
    · obtain ⟨a, xs, rfl, sq, rv⟩ := p1
      exact .inl ⟨a, xs, rfl, sq.sq, hq _ _ h1 r1 H1 _ k1 hh1 (jrep_frl sq rv)⟩
    · split at h1
      · obtain ⟨a, e1, rfl⟩ := p1
        obtain ⟨vs, f, rv⟩ := hh1.ob _ _ _ e1 (by assumption)
        exact .inl ⟨a, vs, rfl, .of f, hq _ _ h1 r1 H1 _ k1 hh1 (jrep_lst e1)⟩
      · exact h1.elim
    · exact .inr (.inr ⟨_, p1, hq _ _ h1 r1 H1 _ k1 hh1 jrep_str⟩)
    · exact h1.elim
def rangeD (lo : Int) (n : Nat) : List D := (List.range n).map fun i => D.int (lo + (i : Nat))
theorem jrep_range {r : List Addr} {H : Hp} {lo : Int} {n : Nat} : JRep K r H (Itr lo n) ⟨rangeD lo n, fun _ => True⟩ where
  go := fun r1 H1 ah i d k hh _ e => by
    unfold rangeD at e
    simp only [List.getElem?_map, Option.map_eq_some_iff] at e
    obtain ⟨j, e1, rfl⟩ := e
    obtain ⟨hj, e2⟩ := List.getElem?_eq_some_iff.mp e1
    rw [List.getElem_range] at e2
    subst e2
    refine ⟨show i < n by simpa using hj, fun x H' y => ?_⟩
    obtain ⟨rfl, rfl⟩ := y
    exact ⟨Kp.refl, hh, rfl⟩
  stop := fun r1 H1 ah i k hh _ e => by
    show n ≤ i
    unfold rangeD at e
    simpa using e
def wRng1 (w : WA) : WI := fun env ah q x => w env ah (fun ds ah1 => match ds with
  | [.int j] => -(2 ^ 62) ≤ j ∧ j < 2 ^ 62 ∧ q ⟨rangeD 0 j.toNat, fun _ => True⟩ ah1
  | _ => False) x
theorem di_range1 {p : Pos} (hg : Gl X "range") (hm : X.mg "range" = none) (h : DA X [a] ws) (hs : starEach [a] X.env = [(false, eval a X.env)] := by rfl) : DI X tg (.Call (.Name "range" p) [a] [] pos) (wRng1 ws) := fun W tk =>
  (pi_range1 hg hm (h W tk) hs).weak fun s H R ⟨r, env, ah, q, x, he, hh, hw, hq, hx⟩ => by
    refine ⟨r, env, ah, _, x, he, hh, hw, fun ds ah1 h1 r1 H1 vs k1 hh1 p1 => ?_, hx⟩
    dsimp only at h1
    split at h1
    · obtain ⟨v, vr, rfl, q1, rfl⟩ := p1
      cases q1
      exact ⟨_, rfl, h1.1, h1.2.1, hq _ _ h1.2.2 r1 H1 _ k1 hh1 jrep_range⟩
    · exact h1.elim
def wRng2 (w : WA) : WI := fun env ah q x => w env ah (fun ds ah1 => match ds with
  | [.int i, .int j] => (-(2 ^ 62) ≤ i ∧ i < 2 ^ 62 ∧ -(2 ^ 62) ≤ j ∧ j < 2 ^ 62) ∧ q ⟨rangeD i (j - i).toNat, fun _ => True⟩ ah1
  | _ => False) x
theorem di_range2 {p : Pos} (hg : Gl X "range") (hm : X.mg "range" = none) (h : DA X [a, b] ws) (hs : starEach [a, b] X.env = [(false, eval a X.env), (false, eval b X.env)] := by rfl) (hs2 : starEach [b] X.env = [(false, eval b X.env)] := by rfl) : DI X tg (.Call (.Name "range" p) [a, b] [] pos) (wRng2 ws) := fun W tk =>
  (pi_range2 hg hm (h W tk) hs hs2).weak fun s H R ⟨r, env, ah, q, x, he, hh, hw, hq, hx⟩ => by
    refine ⟨r, env, ah, _, x, he, hh, hw, fun ds ah1 h1 r1 H1 vs k1 hh1 p1 => ?_, hx⟩
    dsimp only at h1
    split at h1
    · obtain ⟨v, vr, rfl, q1, v2, vr2, rfl, q2, rfl⟩ := p1
      cases q1
      cases q2
      exact ⟨_, _, rfl, h1.1, hq _ _ h1.2 r1 H1 _ k1 hh1 jrep_range⟩
    · exact h1.elim

/-! ### for -/
def forGo (ok : AH → Prop) (g : WG) (body : WS) (dn : DEnds) (x : QXS) : List D → En → AH → Prop
  | [], env, ah => ok ah ∧ dn.nx env ah
  | d :: l, env, ah => ok ah ∧ g d env ah fun env1 ah1 => body env1 ah1 { dn with nx := forGo ok g body dn x l, ct := forGo ok g body dn x l, bk := dn.nx } x
def wFor (wi : WI) (g : WG) (body : WS) : WS := fun env ah dn x => wi env ah (fun it ah1 => forGo it.ok g body dn x it.items env ah1) (atE x env)
theorem forGo_ok {ok : AH → Prop} {g : WG} {body : WS} {dn : DEnds} {x : QXS} {l : List D} {env : En} {ah : AH} (h : forGo ok g body dn x l env ah) : ok ah := by
  cases l <;> exact h.1
theorem ds_for {iter : Expr} {body : List Stmt} {wi : WI} {g : WG} (hp : PassesOwn (model X.prog X.w) X.A X.env X.xe) (hc : X.calm = true) (hi : DI X tg iter wi) (hg : DG X tg g) (hb : DSs X body u)
    (hs : ∀ x, foldedSetIterable iter X.env x = pure x := by intro _; rfl) : DS X (.For tg iter body [] pos) (wFor wi g u) := fun W tk =>
  (ps_for hp hc (hi W tk) hg (hb W tk) hs).weak fun Dn s H ⟨r, env, ah, dn, x, he, hh, hw, hd, hx⟩ => by
    refine ⟨r, env, ah, _, _, he, hh, hw, fun it ah1 h1 r1 H1 J k1 hh1 jr => ?_, hx.at_ he⟩
    refine ⟨fun i m s2 H2 => ∃ r2 env2 ah2, Kp X.K r1 H1 r2 H2 ∧ ERep X.K r2 H2 env2 s2 ∧ HRep X.K r2 H2 ah2 ∧ i + m = it.items.length ∧ forGo it.ok g u dn x (it.items.drop i) env2 ah2,
      ⟨it.items.length, r1, env, ah1, Kp.refl, he.mono k1, hh1, by omega, by simpa using h1⟩, fun i m s2 H2 hW => ?_⟩
    obtain ⟨r2, env2, ah2, k2, he2, hh2, hm, hf⟩ := hW
    have ok := forGo_ok hf
    by_cases hlt : i < it.items.length
    · have e : it.items[i]? = some it.items[i] := List.getElem?_eq_getElem hlt
      rw [List.drop_eq_getElem_cons hlt] at hf
      obtain ⟨go, yl⟩ := jr.go r2 H2 ah2 i _ k2 hh2 ok e
      refine .inr ⟨go, fun s3 H3 => ∃ r3 env3 ah3, Kp X.K r1 H1 r3 H3 ∧ ERep X.K r3 H3 env3 s3 ∧ HRep X.K r3 H3 ah3 ∧ forGo it.ok g u dn x (it.items.drop (i + 1)) env3 ah3,
        fun s3 H3 ⟨r3, env3, ah3, k3, he3, hh3, h3⟩ => ⟨m - 1, by omega, r3, env3, ah3, k3, he3, hh3, by omega, h3⟩, fun y H3 hy => ?_⟩
      obtain ⟨k3, hh3, p3⟩ := yl y H3 hy
      have k13 := k2.trans k3
      have k03 := k1.trans k13
      refine ⟨r2, env2, ah2, _, _, he2.mono k3, hh3, p3, hf.2, fun env4 ah4 h4 r4 H4 s4 k4 hh4 he4 => ?_⟩
      have k14 := k13.trans k4
      have k04 := k03.trans k4
      refine ⟨r4, env4, ah4, _, x, he4, hh4, h4, ⟨fun env5 ah5 h5 r5 H5 s5 k5 hh5 he5 => ⟨r5, env5, ah5, k14.trans k5, he5, hh5, h5⟩, hd.rt.step k04, hd.nx.step k04,
        fun env5 ah5 h5 r5 H5 s5 k5 hh5 he5 => ⟨r5, env5, ah5, k14.trans k5, he5, hh5, h5⟩⟩, hx.step k04⟩
    · rw [List.drop_eq_nil_of_le (by omega)] at hf
      exact .inl ⟨jr.stop r2 H2 ah2 i k2 hh2 ok (by omega), hd.nx _ _ hf.2 r2 H2 s2 (k1.trans k2) hh2 he2⟩

/-! ### while: an invariant and a number that falls -/
def wWhile (t : WT) (body : WS) : WS := fun env ah dn x => ∃ I : Nat → En → AH → Prop, (∃ m, I m env ah) ∧ ∀ m env ah, I m env ah →
  t env ah (fun b ah1 => if b = true then body env ah1 { dn with nx := fun e a => ∃ m', m' < m ∧ I m' e a, ct := fun e a => ∃ m', m' < m ∧ I m' e a, bk := dn.nx } x else dn.nx env ah1) (atE x env)
theorem ds_while {body : List Stmt} (hp : PassesOwn (model X.prog X.w) X.A X.env X.xe) (hc : DT X c tc) (hb : DSs X body u) : DS X (.While c body [] pos) (wWhile tc u) := fun W tk =>
  (ps_while hp (hc W tk) (hb W tk)).weak fun Dn s H ⟨r, env, ah, dn, x, he, hh, ⟨I, ⟨m0, w0⟩, turn⟩, hd, hx⟩ => by
    refine ⟨fun m s2 H2 => ∃ r2 env2 ah2, Kp X.K r H r2 H2 ∧ ERep X.K r2 H2 env2 s2 ∧ HRep X.K r2 H2 ah2 ∧ I m env2 ah2, ⟨m0, r, env, ah, Kp.refl, he, hh, w0⟩, fun m s2 H2 hW => ?_⟩
    obtain ⟨r2, env2, ah2, k2, he2, hh2, h2⟩ := hW
    refine ⟨r2, env2, ah2, _, _, he2, hh2, turn m env2 ah2 h2, fun b ah3 h3 r3 H3 k3 hh3 => ?_, (hx.step k2).at_ he2⟩
    have k23 := k2.trans k3
    cases b with
    | true =>
      refine ⟨fun s4 H4 => ∃ m', m' < m ∧ ∃ r4 env4 ah4, Kp X.K r H r4 H4 ∧ ERep X.K r4 H4 env4 s4 ∧ HRep X.K r4 H4 ah4 ∧ I m' env4 ah4, fun s4 H4 h => h, ?_⟩
      refine ⟨r3, env2, ah3, _, x, he2.mono k3, hh3, h3, ⟨fun env5 ah5 h5 r5 H5 s5 k5 hh5 he5 => ?_, hd.rt.step k23, hd.nx.step k23, fun env5 ah5 h5 r5 H5 s5 k5 hh5 he5 => ?_⟩, hx.step k23⟩
      · obtain ⟨m', hm, h5⟩ := h5
        exact ⟨m', hm, r5, env5, ah5, k23.trans k5, he5, hh5, h5⟩
      · obtain ⟨m', hm, h5⟩ := h5
        exact ⟨m', hm, r5, env5, ah5, k23.trans k5, he5, hh5, h5⟩
    | false => exact hd.nx _ _ h3 r3 H3 s2 k23 hh3 (he2.mono k3)

/-! ### list comprehensions -/
def lcGo (ok : AH → Prop) (g : WG) (t : WT) (el : WE) (env : En) (q : QE) : List D → List D → AH → Prop
  | [], acc, ah => ok ah ∧ newL acc ah q
  | d :: l, acc, ah => ok ah ∧ acc.length < sizeLine ∧ g d env ah fun env1 ah1 => t env1 ah1 (fun b ah2 =>
      if b = true then el env1 ah2 (fun y ah3 => lcGo ok g t el env q l (acc ++ [y]) ah3) (fun _ _ => False) else lcGo ok g t el env q l acc ah2) (fun _ _ => False)
/-- vs: the slots of the comprehension's own names -/
def wLc (vs : List Nat) (wi : WI) (g : WG) (t : WT) (el : WE) : WE := fun env ah q x => wi env ah (fun it ah1 => lcGo it.ok g t el (nos env vs) q it.items [] ah1) x
theorem takesF : Takes X (fun _ _ _ _ => False) := fun _ _ h => by
  obtain ⟨_, _, _, _, _, _, _, _, _, _, _, _, _, _, _, _, z⟩ := h
  exact z.elim
/-- a target of a comprehension: it stores to the slots vs alone -/
def TGD (K : PySem.W.Frag) (vs : List Nat) (t : TG) (g : WG) : Prop := ∀ r H env ah d v s Q q, ERep K r H env s → HRep K r H ah → Rep K r H d v → g d env ah q → (∀ env1 s1, L2.wipe s1 vs = L2.wipe s vs → ERep K r H env1 s1 → q env1 ah → Q s1 H) → t v s H Q
def TGDs (K : PySem.W.Frag) (vs : List Nat) (t : TGs) (g : WGs) : Prop := ∀ r H env ah d v s Q q, ERep K r H env s → HRep K r H ah → Reps K r H d v → g d env ah q → (∀ env1 s1, L2.wipe s1 vs = L2.wipe s vs → ERep K r H env1 s1 → q env1 ah → Q s1 H) → t v s H Q
theorem wipe_set {i : Nat} {x : Option V} : ∀ {vs : List Nat} {s : L2.St}, i ∈ vs → L2.wipe (s.set i x) vs = L2.wipe s vs
  | [], _, h => by cases h
  | v :: vs, s, h => by
    unfold L2.wipe
    by_cases hv : i ∈ vs
    · rw [wipe_set hv]
    · have e : i = v := by
        rcases List.mem_cons.mp h with h | h
        · exact h
        · exact absurd h hv
      subst e
      have : ∀ (l : List Nat) (s : L2.St), i ∉ l → L2.wipe (s.set i x) l = (L2.wipe s l).set i x := by
        intro l
        induction l with
        | nil => intro s _; rfl
        | cons w l ih =>
          intro s hn
          unfold L2.wipe
          rw [ih s (fun z => hn (List.mem_cons_of_mem _ z)), List.set_comm]
          exact fun z => hn (by rw [z]; exact List.mem_cons_self)
      rw [this vs s hv, List.set_set]
theorem tgd_name {i : Nat} {vs : List Nat} (h : i ∈ vs := by decide) : TGD K vs (gName i) (gN i) := fun r H env ah d v s Q q he hh p hg hq => hq _ _ (wipe_set h) (he.set i p) hg
theorem tgds_nil {vs : List Nat} : TGDs K vs gNil gsN := fun r H env ah d v s Q q he hh p hg hq => by
  cases d with
  | nil => exact ⟨p, hq _ _ rfl he hg⟩
  | cons _ _ => exact hg.elim
theorem tgds_cons {vs : List Nat} {t : TG} {g : WG} {ts : TGs} {gs : WGs} (h1 : TGD K vs t g) (h2 : TGDs K vs ts gs) : TGDs K vs (gCons t ts) (gsC g gs) := fun r H env ah d v s Q q he hh p hg hq => by
  cases d with
  | nil => exact hg.elim
  | cons d l =>
    obtain ⟨v, vr, e, p1, p2⟩ := p
    exact ⟨v, vr, e, h1 r H env ah d v s _ _ he hh p1 hg fun env1 s1 z he1 g1 => h2 r H env1 ah l vr s1 Q q he1 hh p2 g1 fun env2 s2 z2 he2 q2 => hq _ _ (z2.trans z) he2 q2⟩
theorem tgd_tup {n : Nat} {vs : List Nat} {ts : TGs} {gs : WGs} (h : TGDs K vs ts gs) : TGD K vs (gTup K n ts) (gT n gs) := fun r H env ah d v s Q q he hh p hg hq => by
  cases d with
  | tup l =>
    obtain ⟨a, xs, rfl, sq, rv⟩ := p
    exact ⟨a, xs, rfl, sq, by rw [rv.length]; exact hg.1, h r H env ah l xs s Q q he hh rv hg.2 hq⟩
  | _ => exact hg.elim
/-- a list outside of the heap of data is written -/
theorem out_write {r : List Addr} {H : Hp} {ah : AH} {p : Addr} {vs us : List V} (hh : HRep K r H ah) (hp : p ∉ r) (e : H p = some (.lst vs)) :
    (∀ a xs, SqT K H a xs → SqT K (upd H p (.lst us)) a xs) ∧ (∀ a xs, SqF K H a xs → SqF K (upd H p (.lst us)) a xs) ∧ HRep K r (upd H p (.lst us)) ah := by
  have h2 : ∀ a xs, SqT K H a xs → SqT K (upd H p (.lst us)) a xs := fun a xs h => by
    rcases h with h | h
    · refine .inl ?_
      rcases h with h | ⟨o, h⟩
      · exact .inl (by rw [upd_ne (fun z => by rw [z, e] at h; cases h)]; exact h)
      · exact .inr ⟨o, by rw [upd_ne (fun z => by rw [z, e] at h; cases h)]; exact h⟩
    · exact .inr h
  have h3 : ∀ a xs, SqF K H a xs → SqF K (upd H p (.lst us)) a xs := fun a xs h => by
    rcases h with ⟨o, h⟩ | h
    · exact .inl ⟨o, by rw [upd_ne (fun z => by rw [z, e] at h; cases h)]; exact h⟩
    · exact .inr h
  have h4 : ∀ (c : Addr) (q : Str), c ∉ r → H c = some (LamX.CodeO c q) → c ∉ r ∧ upd H p (.lst us) c = some (LamX.CodeO c q) := fun c q g1 g2 => ⟨g1, by rw [upd_ne (fun z => by rw [z, e] at g2; cases g2)]; exact g2⟩
  refine ⟨h2, h3, hh.len, hh.nd, fun n a o e1 e2 => ?_, fun b ps eb => ?_, te_of hh.te fun b ps eb => ⟨#[], by rw [upd_ne (fun z => by rw [z, e] at eb; cases eb), eb]; simp⟩⟩
  rotate_left
  · have hb : b ≠ p := fun z => by rw [z, upd_same] at eb; cases eb
    rw [upd_ne hb] at eb
    exact (hh.tb b ps eb).keep (upd_ne hb) fun c h1 h2 => ⟨h1, by rw [upd_ne (fun z => by rw [z, e] at h2; cases h2)]; exact h2⟩
  have na : a ≠ p := fun z => hp (z ▸ List.mem_of_getElem? e1)
  have ea : upd H p (.lst us) a = H a := upd_ne na
  have q := hh.ob n a o e1 e2
  cases o with
  | lst xs => obtain ⟨w, q1, q2⟩ := q; exact ⟨w, ea.trans q1, q2.mono3 (fun _ _ h => h) h2 h3 h4⟩
  | dct xs => obtain ⟨w, q1, q2⟩ := q; exact ⟨w, ea.trans q1, q2.mono3 (fun _ _ h => h) h2 h3 h4⟩
  | dcl xs => obtain ⟨w, o, q1, q2⟩ := q; exact ⟨w, o, ea.trans q1, q2.mono3 (fun _ _ h => h) h2 h3 h4⟩
  | ins C xs =>
    obtain ⟨dx, w, q1, q2, q3, q4⟩ := q
    exact ⟨dx, w, ea.trans q1, q2, (upd_ne (fun z => by rw [z, e] at q3; cases q3)).trans q3, q4.mono3 (fun _ _ h => h) h2 h3 h4⟩
  | exc C xs =>
    obtain ⟨dx, w, q1, q2, q3, q4⟩ := q
    exact ⟨dx, w, ea.trans q1, fun d hd => ⟨(q2 d hd).1, (upd_ne (fun z => by have := (q2 d hd).2; rw [z, e] at this; cases this)).trans (q2 d hd).2⟩, q3, q4.mono3 (fun _ _ h => h) h2 h3 h4⟩
  | raw u => exact ⟨ea.trans q.1, q.2⟩
theorem LE.lc {wi : WI} {t : TG} {g : WG} {tt : WT} {vs : List Nat} {W : WX} {s : L2.St} {H : Hp} {Q : VK} (tg : TGD K vs t g) (h : LE K (wLc vs wi g tt we) W s H Q) :
    tLc (LI K wi W) t (LT K tt fun _ _ _ _ => False) (LE K we fun _ _ _ _ => False) vs s H Q := by
  obtain ⟨r, env, ah, q, x, he, hh, hw, hq, hx⟩ := h
  refine ⟨r, env, ah, _, x, he, hh, hw, fun it ah1 h1 r1 H1 J k1 hh1 jr => ?_, hx⟩
  intro p hp
  have hwp := (he.mono k1).wipe vs
  refine ⟨fun i m H2 => ∃ r2 ah2 acc us, Kp K r1 H1 r2 H2 ∧ HRep K r2 H2 ah2 ∧ p ∉ r2 ∧ H2 p = some (.lst us) ∧ Reps K r2 H2 acc us ∧ i + m = it.items.length ∧ lcGo it.ok g tt we (nos env vs) q (it.items.drop i) acc ah2,
    ⟨it.items.length, r1, ah1, [], [], Kp.new_ hp, hh1.new_ hp, hh1.fresh hp, upd_same, rfl, by omega, by simpa using h1⟩, fun i m H2 hW => ?_⟩
  obtain ⟨r2, ah2, acc, us, k2, hh2, np2, ep2, ra2, hm, hf⟩ := hW
  by_cases hlt : i < it.items.length
  · have e : it.items[i]? = some it.items[i] := List.getElem?_eq_getElem hlt
    rw [List.drop_eq_getElem_cons hlt] at hf
    obtain ⟨ok, hsz, hf⟩ := hf
    obtain ⟨go, yl⟩ := jr.go r2 H2 ah2 i _ k2 hh2 ok e
    refine .inr ⟨go, fun H3 => ∃ r3 ah3 acc3 us3, Kp K r1 H1 r3 H3 ∧ HRep K r3 H3 ah3 ∧ p ∉ r3 ∧ H3 p = some (.lst us3) ∧ Reps K r3 H3 acc3 us3 ∧ lcGo it.ok g tt we (nos env vs) q (it.items.drop (i + 1)) acc3 ah3,
      fun H3 ⟨r3, ah3, acc3, us3, k3, hh3, np3, ep3, ra3, h3⟩ => ⟨m - 1, by omega, r3, ah3, acc3, us3, k3, hh3, np3, ep3, ra3, by omega, h3⟩, fun y H3 hy => ?_⟩
    obtain ⟨k3, hh3, p3⟩ := yl y H3 hy
    have k13 := k2.trans k3
    refine tg r2 H3 (nos env vs) ah2 _ y _ _ _ ((hwp.mono k2).mono k3) hh3 p3 hf fun env4 s4 z4 he4 h4 => ?_
    have ep3 : H3 p = some (.lst us) := k3.out p _ np2 ep2 (by simp)
    refine ⟨?_, r2, env4, ah2, _, _, he4, hh3, h4, fun b ah5 h5 r5 H5 k5 hh5 => ?_, fun _ _ _ z => z.elim⟩
    · rw [z4]
      have : ∀ (l : List Nat) (s : L2.St), (∀ j ∈ l, j ∈ vs) → L2.wipe (L2.wipe s vs) l = L2.wipe s vs := by
        intro l
        induction l with
        | nil => intro s _; rfl
        | cons v l ih =>
          intro s hl
          show (L2.wipe (L2.wipe s vs) l).set v none = _
          rw [ih s fun j hj => hl j (List.mem_cons_of_mem _ hj)]
          have hv := hl v List.mem_cons_self
          apply List.ext_getElem?
          intro j
          by_cases hj : v = j
          · subst hj
            have hw : ∀ (l : List Nat) (s : L2.St), v ∈ l → (L2.wipe s l)[v]? = if v < s.length then some none else none := by
              intro l
              induction l with
              | nil => intro s hm; cases hm
              | cons w l ih2 =>
                intro s hm
                show ((L2.wipe s l).set w none)[v]? = _
                by_cases hwv : w = v
                · subst hwv
                  rw [List.getElem?_set]
                  simp [L2.wipe_length]
                · rw [List.getElem?_set_ne hwv]
                  exact ih2 s ((List.mem_cons.mp hm).resolve_left (fun z => hwv z.symm))
            rw [List.getElem?_set]
            simp [L2.wipe_length, hw vs s hv]
          · rw [List.getElem?_set_ne hj]
      exact this vs s fun j hj => hj
    · have np5 : p ∉ r5 := fun z => by
        rcases k5.new p z with z | z
        · exact np2 z
        · rw [ep3] at z; cases z
      have ep5 : H5 p = some (.lst us) := k5.out p _ np2 ep3 (by simp)
      have k15 := k13.trans k5
      cases b with
      | false => exact ⟨r5, ah5, acc, us, k15, hh5, np5, ep5, (ra2.mono k3).mono k5, h5⟩
      | true =>
        refine ⟨r5, env4, ah5, _, _, he4.mono k5, hh5, h5, fun d ah6 h6 r6 H6 v k6 hh6 p6 => ?_, fun _ _ _ z => z.elim⟩
        have np6 : p ∉ r6 := fun z => by
          rcases k6.new p z with z | z
          · exact np5 z
          · rw [ep5] at z; cases z
        have ep6 : H6 p = some (.lst us) := k6.out p _ np5 ep5 (by simp)
        have k16 := k15.trans k6
        obtain ⟨o2, o3, hh7⟩ := out_write (us := us ++ [v]) hh6 np6 ep6
        have ra6 := ((ra2.mono k3).mono k5).mono k6
        refine ⟨us, ep6, by rw [ra6.length]; exact hsz, r6, ah6, acc ++ [d], us ++ [v], ?_, hh7, np6, upd_same, (ra6.append (Reps.one p6)).mono3 (fun _ _ h => h) o2 o3 (fun c q g1 g2 => ⟨g1, by rw [upd_ne (fun z => by rw [z, ep6] at g2; cases g2)]; exact g2⟩), h6⟩
        refine ⟨k16.pre, fun a xs h => o2 a xs (k16.tup a xs h), fun a xs h => o3 a xs (k16.frl a xs h), fun b o nb eb tb => ?_, k16.new, fun b ps eb => ?_⟩
        · rw [upd_ne (ne_of_none eb hp)]
          exact k16.out b o nb eb tb
        · rw [upd_ne (ne_of_none eb hp)]
          exact k16.tb b ps eb
  · rw [List.drop_eq_nil_of_le (by omega)] at hf
    obtain ⟨ok, hf⟩ := hf
    refine .inl ⟨jr.stop r2 H2 ah2 i k2 hh2 ok (by omega), ?_⟩
    have hpre : ∀ (n : Nat) (a : Addr), r2[n]? = some a → (r2 ++ [p])[n]? = some a := fun n a h => by
      rw [List.getElem?_append_left (List.getElem?_eq_some_iff.mp h).1]; exact h
    have k3 : Kp K r1 H1 (r2 ++ [p]) H2 := ⟨fun n a h => hpre n a (k2.pre n a h), k2.tup, k2.frl, k2.out, fun b hb => by
      rcases List.mem_append.mp hb with z | z
      · exact k2.new b z
      · rw [List.mem_singleton.mp z]; exact .inr hp, k2.tb⟩
    refine hq _ _ hf (r2 ++ [p]) H2 (.ref p) (k1.trans k3) ?_ ⟨p, by rw [← hh2.len]; simp, rfl⟩
    have hc4 : ∀ (c : Addr) (q : Str), c ∉ r2 → H2 c = some (LamX.CodeO c q) → c ∉ r2 ++ [p] ∧ H2 c = some (LamX.CodeO c q) := fun c q g1 g2 => ⟨fun z => (List.mem_append.mp z).elim g1 (fun z => by rw [List.mem_singleton.mp z, ep2] at g2; cases g2), g2⟩
    have ra3 : Reps K (r2 ++ [p]) H2 acc us := ra2.mono3 hpre (fun _ _ h => h) (fun _ _ h => h) hc4
    refine ⟨by simp [hh2.len], ?_, fun n a o e1 e2 => ?_, fun b ps eb => (hh2.tb b ps eb).keep rfl fun c h1 h2 => ⟨fun z => ?_, h2⟩, hh2.te⟩
    rotate_left 2
    · rcases List.mem_append.mp z with z | z
      · exact h1 z
      · rw [List.mem_singleton.mp z, ep2] at h2; cases h2
    · rw [List.nodup_append]
      exact ⟨hh2.nd, by simp, fun x hx y hy z => np2 (by rw [← List.mem_singleton.mp hy, ← z]; exact hx)⟩
    · by_cases hn : n < r2.length
      · rw [List.getElem?_append_left hn] at e1
        rw [List.getElem?_append_left (by rw [← hh2.len]; exact hn)] at e2
        have qo := hh2.ob n a o e1 e2
        have nn : ∀ d u, d ∉ r2 → H2 d = some u → (∀ w, u ≠ .lst w) → d ∉ r2 ++ [p] := fun d u h1 h2 h3 z => by
          rcases List.mem_append.mp z with z | z
          · exact h1 z
          · rw [List.mem_singleton.mp z, ep2] at h2; exact h3 us (Option.some.inj h2).symm
        cases o with
        | lst xs => obtain ⟨w, q1, q2⟩ := qo; exact ⟨w, q1, q2.mono3 hpre (fun _ _ h => h) (fun _ _ h => h) hc4⟩
        | dct xs => obtain ⟨w, q1, q2⟩ := qo; exact ⟨w, q1, q2.mono3 hpre (fun _ _ h => h) (fun _ _ h => h) hc4⟩
        | dcl xs => obtain ⟨w, o, q1, q2⟩ := qo; exact ⟨w, o, q1, q2.mono3 hpre (fun _ _ h => h) (fun _ _ h => h) hc4⟩
        | ins C xs => obtain ⟨dx, w, q1, q2, q3, q4⟩ := qo; exact ⟨dx, w, q1, nn _ _ q2 q3 (by simp), q3, q4.mono3 hpre (fun _ _ h => h) (fun _ _ h => h) hc4⟩
        | exc C xs => obtain ⟨dx, w, q1, q2, q3, q4⟩ := qo; exact ⟨dx, w, q1, fun d hd => ⟨nn _ _ (q2 d hd).1 (q2 d hd).2 (by simp), (q2 d hd).2⟩, q3, q4.mono3 hpre (fun _ _ h => h) (fun _ _ h => h) hc4⟩
        | raw u => exact qo
      · rw [List.getElem?_append_right (by omega)] at e1
        rw [List.getElem?_append_right (by rw [← hh2.len]; omega)] at e2
        rw [hh2.len] at e1
        cases m' : n - ah2.length with
        | zero => rw [m'] at e1 e2; cases e1; cases e2; exact ⟨us, ep2, ra3⟩
        | succ k => rw [m'] at e1; simp at e1
variable {elt iter : Expr} {ifs : List Expr} {scope : Scope} {own : List (Str × Nat)} {wi : WI} {t : TG} {g : WG} {tt : WT}
def DTs (X : Cx) (ifs : List Expr) (t : WT) : Prop := PTs X ifs (LT X.K t fun _ _ _ _ => False)
def wYes : WT := fun _ ah q _ => q true ah
theorem dts_nil : DTs X [] wYes := ⟨fun pins s σ H Q I ⟨r, env, ah, q, x, he, hh, hw, hq, hx⟩ => pts_nil.run pins s σ H Q I (hq _ _ hw r H Kp.refl hh)⟩
theorem dts_one (h : DT X c tc) : DTs X [c] tc := pts_one (h _ takesF)
theorem de_lc (hc : X.calm = true) (hN : X.N.Nodup) (hi : DI X tg iter wi) (ok : BlkOk X.N X.env.scope scope own)
    (hg : ∀ (s : Shared) (H : Hp) (C : Addr) (cl : List (Str × Addr)) (fp : List Addr), PG (X.blk s H scope (compEnvC scope cl C X.env) fp) tg t) (hd : TGD X.K (own.map (·.2)) t g)
    (ht : ∀ (s : Shared) (H : Hp) (C : Addr) (cl : List (Str × Addr)) (fp : List Addr), DTs (X.blk s H scope (compEnvC scope cl C X.env) fp) ifs tt)
    (he : ∀ (s : Shared) (H : Hp) (C : Addr) (cl : List (Str × Addr)) (fp : List Addr), DE (X.blk s H scope (compEnvC scope cl C X.env) fp) elt we) (hs : ∀ x, foldedSetIterable iter X.env x = pure x := by intro _; rfl) :
    DE X (.ListComp elt [⟨tg, iter, ifs, 0⟩] scope pos) (wLc (own.map (·.2)) wi g tt we) := fun W tk =>
  (pe_lc (tt := LT X.K tt fun _ _ _ _ => False) (te := LE X.K we fun _ _ _ _ => False) hc hN (hi W tk) ok hg (fun s H C cl fp => ht s H C cl fp) (fun s H C cl fp => he s H C cl fp _ takesF) hs).weak fun s H Q h => LE.lc hd h
theorem ds_setLc {i : Nat} {y : Str} {py spos : Pos} (hc : X.calm = true) (hN : X.N.Nodup) (hy : X.N[i]? = some y) (hyl : X.env.scope.names.lookup y = some .local)
    (hsw : swapsWith (.ListComp elt [⟨tg, iter, ifs, 0⟩] scope pos) (some (.Name y py)) spos.line X.env = pure true) (hi : DI X tg iter wi) (ok : BlkOk X.N X.env.scope scope own)
    (hg : ∀ (s : Shared) (H : Hp) (C : Addr) (cl : List (Str × Addr)) (fp : List Addr), PG (X.blk s H scope (compEnvC scope cl C X.env) fp) tg t) (hd : TGD X.K (own.map (·.2)) t g)
    (ht : ∀ (s : Shared) (H : Hp) (C : Addr) (cl : List (Str × Addr)) (fp : List Addr), DTs (X.blk s H scope (compEnvC scope cl C X.env) fp) ifs tt)
    (he : ∀ (s : Shared) (H : Hp) (C : Addr) (cl : List (Str × Addr)) (fp : List Addr), DE (X.blk s H scope (compEnvC scope cl C X.env) fp) elt we) (hs : ∀ x, foldedSetIterable iter X.env x = pure x := by intro _; rfl) :
    DS X (.Assign [.Name y py] (.ListComp elt [⟨tg, iter, ifs, 0⟩] scope pos) spos) (wAsg (wLc (own.map (·.2)) wi g tt we) (gN i)) := fun W tk =>
  (ps_setLc (i := i) (tt := LT X.K tt fun _ _ _ _ => False) (te := LE X.K we fun _ _ _ _ => False) hc hN hy hyl hsw (hi W tk) ok hg (fun s H C cl fp => ht s H C cl fp) (fun s H C cl fp => he s H C cl fp _ takesF) hs).weak fun Dn s H ⟨r, env, ah, dn, x, he, hh, hw, hd', hx⟩ =>
    LE.lc hd ⟨r, env, ah, _, _, he, hh, hw, fun d ah1 h1 r1 H1 v k1 hh1 p1 => hd'.nx _ _ h1 r1 H1 _ k1 hh1 ((he.mono k1).set i p1), hx.at_ he⟩
end
end Z
namespace Z
open PySem PySem.Spec PyProof.Rows L2
section
variable {X : Cx} {K : PySem.W.Frag} {pos : Pos} {a b c e tg : Expr} {es : List Expr} {wa wb wc we : WE} {ta tb tc : WT} {ws : WA} {s1 : Stmt} {ss : List Stmt} {u v w : WS}

/-! ### built-in functions, by values -/
abbrev FA := List D → AH → QE → Prop
structure Cal (X : Cx) (f : Value) (g : FA) : Prop where
  ex : ∃ r, CallR X f r ∧ ∀ rr H ah ds vs q Q, HRep X.K rr H ah → Reps X.K rr H ds vs → g ds ah q → Cn X.K rr H q Q → r vs H Q
def wCal (g : FA) (w : WA) : WE := fun env ah q x => w env ah (fun ds ah1 => g ds ah1 q) x
theorem LE.cal {g : FA} {r : List V → Hp → VK → Prop} {W : WX} {s : L2.St} {H : Hp} {Q : VK} (hr : ∀ rr H ah ds vs q Q, HRep K rr H ah → Reps K rr H ds vs → g ds ah q → Cn K rr H q Q → r vs H Q) (h : LE K (wCal g ws) W s H Q) : tCB r (LA K ws W) s H Q := by
  obtain ⟨rr, env, ah, q, x, he, hh, hw, hq, hx⟩ := h
  exact ⟨rr, env, ah, _, x, he, hh, hw, fun ds ah1 h1 r1 H1 vs k1 hh1 p1 => hr r1 H1 ah1 ds vs q Q hh1 p1 h1 (hq.step k1), hx⟩
theorem de_callB {x : Str} {id : String} {p : Pos} {g : FA} (o : Cal X (.builtin id) g) (hg : Gl X x) (hm : X.mg x = none) (hv : bootBuiltins x = some (.builtin id)) (ha : DA X (e :: es) ws) (hn : x ≠ "__name__" := by decide) (hdb : (x == ("__debug__" : Str)) = false := by decide)
    (h1 : starEach (e :: es) X.env = (false, eval e X.env) :: starEach es X.env := by rfl) (h2 : (backTo pos (starEach es X.env)).any (·.1) = false := by rfl) : DE X (.Call (.Name x p) (e :: es) [] pos) (wCal g ws) := fun W tk => by
  obtain ⟨r, q1, q2⟩ := o.ex
  exact (pe_callB q1 hg hm hv (ha W tk) hn hdb h1 h2).weak fun s H Q h => LE.cal q2 h
theorem de_callTy {x : Str} {id : String} {p : Pos} {g : FA} (o : Cal X (.type id) g) (hg : Gl X x) (hm : X.mg x = none) (hv : bootBuiltins x = some (.type id)) (ha : DA X (e :: es) ws) (hn : x ≠ "__name__" := by decide) (hdb : (x == ("__debug__" : Str)) = false := by decide)
    (h1 : starEach (e :: es) X.env = (false, eval e X.env) :: starEach es X.env := by rfl) (h2 : (backTo pos (starEach es X.env)).any (·.1) = false := by rfl) : DE X (.Call (.Name x p) (e :: es) [] pos) (wCal g ws) := fun W tk => by
  obtain ⟨r, q1, q2⟩ := o.ex
  exact (pe_callTy q1 hg hm hv (ha W tk) hn hdb h1 h2).weak fun s H Q h => LE.cal q2 h
theorem Cal.or {f : Value} {g1 g2 g : FA} (o : Cal X f g1) (o2 : Cal X f g2) (i : ∀ ds ah q, g ds ah q → g1 ds ah q ∨ g2 ds ah q) : Cal X f g := by
  obtain ⟨r2, h1, h2⟩ := o.ex
  obtain ⟨r3, h3, h4⟩ := o2.ex
  refine ⟨_, h1.or h3, fun rr H ah ds vs q Q hh p w hq => ?_⟩
  rcases i _ _ _ w with w | w
  · exact .inl (h2 rr H ah ds vs q Q hh p w hq)
  · exact .inr (h4 rr H ah ds vs q Q hh p w hq)
theorem Cal.imp {f : Value} {g1 g : FA} (o : Cal X f g1) (i : ∀ ds ah q, g ds ah q → g1 ds ah q) : Cal X f g := by
  obtain ⟨r2, h1, h2⟩ := o.ex
  exact ⟨_, h1, fun rr H ah ds vs q Q hh p w hq => h2 rr H ah ds vs q Q hh p (i _ _ _ w) hq⟩
theorem Reps.one_of {r : List Addr} {H : Hp} {d : D} {vs : List V} (h : Reps K r H [d] vs) : ∃ v, vs = [v] ∧ Rep K r H d v := by
  obtain ⟨v, vr, rfl, p, rfl⟩ := h
  exact ⟨v, rfl, p⟩
theorem Reps.two_of {r : List Addr} {H : Hp} {d d' : D} {vs : List V} (h : Reps K r H [d, d'] vs) : ∃ v v', vs = [v, v'] ∧ Rep K r H d v ∧ Rep K r H d' v' := by
  obtain ⟨v, vr, rfl, p, v', vr', rfl, p', rfl⟩ := h
  exact ⟨v, v', rfl, p, p'⟩
def gLen : FA := fun ds ah q => match ds with
  | [.str z] => z.length ≤ sizeLine ∧ q (.int z.length) ah
  | [.tup l] => q (.int l.length) ah
  | [.frl l] => q (.int l.length) ah
  | [.ref n] => (match ah[n]? with
    | some (.lst l) => q (.int l.length) ah
    | some (.dct l) => q (.int l.length) ah
    | _ => False)
  | _ => False
theorem cal_len : Cal X (.builtin "len") gLen := by
  refine ⟨_, call_len.or call_lenD, fun rr H ah ds vs q Q hh p w hq => ?_⟩
  unfold gLen at w
  split at w
  · obtain ⟨v, rfl, p1⟩ := p.one_of
    cases p1
    exact .inl ⟨_, _, rfl, ⟨w.1, rfl⟩, hq.here w.2 hh rfl⟩
  · obtain ⟨v, rfl, a, xs, rfl, sq, rv⟩ := p.one_of
    exact .inl ⟨_, xs.length, rfl, .inr ⟨xs, sq, rfl⟩, by rw [rv.length]; exact hq.here w hh rfl⟩
  · obtain ⟨v, rfl, a, xs, rfl, sq, rv⟩ := p.one_of
    exact .inl ⟨_, xs.length, rfl, .inl ⟨xs, sq.sq, rfl⟩, by rw [rv.length]; exact hq.here w hh rfl⟩
  · obtain ⟨v, rfl, a, e1, rfl⟩ := p.one_of
    split at w
    · obtain ⟨xs, f, rv⟩ := hh.ob _ _ _ e1 (by assumption)
      exact .inl ⟨_, xs.length, rfl, .inl ⟨xs, .of f, rfl⟩, by rw [rv.length]; exact hq.here w hh rfl⟩
    · obtain ⟨xs, f, rv⟩ := hh.ob _ _ _ e1 (by assumption)
      exact .inr ⟨a, xs, rfl, f, by rw [rv.length]; exact hq.here w hh rfl⟩
    · exact w.elim
  · exact w.elim
def gMax2 : FA := fun ds ah q => match ds with
  | [.int i, .int j] => q (.int (if j > i then j else i)) ah
  | _ => False
theorem cal_max2 (hc : X.calm = true) : Cal X (.builtin "max") gMax2 := by
  refine ⟨_, call_max2 hc, fun rr H ah ds vs q Q hh p w hq => ?_⟩
  unfold gMax2 at w
  split at w
  · obtain ⟨v, v', rfl, p1, p2⟩ := p.two_of
    cases p1; cases p2
    exact ⟨_, _, rfl, hq.here w hh rfl⟩
  · exact w.elim
def gMin2 : FA := fun ds ah q => match ds with
  | [.int i, .int j] => q (.int (if j < i then j else i)) ah
  | _ => False
theorem cal_min2 (hc : X.calm = true) : Cal X (.builtin "min") gMin2 := by
  refine ⟨_, call_min2 hc, fun rr H ah ds vs q Q hh p w hq => ?_⟩
  unfold gMin2 at w
  split at w
  · obtain ⟨v, v', rfl, p1, p2⟩ := p.two_of
    cases p1; cases p2
    exact ⟨_, _, rfl, hq.here w hh rfl⟩
  · exact w.elim
def gInt : FA := fun ds ah q => match ds with
  | [.int i] => q (.int i) ah
  | [.bl b] => q (.int (if b then 1 else 0)) ah
  | _ => False
theorem cal_int : Cal X (.type "int") gInt := by
  refine ⟨_, call_int1, fun rr H ah ds vs q Q hh p w hq => ?_⟩
  unfold gInt at w
  split at w
  · obtain ⟨v, rfl, p1⟩ := p.one_of
    cases p1
    exact .inl ⟨_, rfl, hq.here w hh rfl⟩
  · obtain ⟨v, rfl, p1⟩ := p.one_of
    cases p1
    exact .inr ⟨_, rfl, hq.here w hh rfl⟩
  · exact w.elim
def gAll : FA := fun ds ah q => match ds with
  | [.ref n] => (match ah[n]? with
    | some (.lst l) => ∃ bs : List Bool, l = bs.map D.bl ∧ q (.bl (bs.all id)) ah
    | _ => False)
  | _ => False
theorem cal_all (hc : X.calm = true) : Cal X (.builtin "all") gAll := by
  refine ⟨_, cr_all hc, fun rr H ah ds vs q Q hh p w hq => ?_⟩
  unfold gAll at w
  split at w
  · obtain ⟨v, rfl, a, e1, rfl⟩ := p.one_of
    split at w
    · obtain ⟨bs, rfl, w⟩ := w
      obtain ⟨xs, f, rv⟩ := hh.ob _ _ _ e1 (by assumption)
      rw [rv.bls_of] at f
      exact ⟨a, bs, rfl, .of f, hq.here w hh rfl⟩
    · exact w.elim
  · exact w.elim
/-- the name of a thing's type -/
def tyD (ah : AH) : D → Option String
  | .non => some "NoneType"
  | .bl _ => some "bool"
  | .int _ => some "int"
  | .str _ => some "str"
  | .tup _ => some "tuple"
  | .frl _ => some "list"
  | .ref n => (match ah[n]? with
    | some (.lst _) => some "list"
    | some (.dct _) => some "dict"
    | _ => none)
  | _ => none
def tyNames : List String := ["NoneType", "bool", "int", "str", "tuple", "list", "dict"]
def isTy (t T : String) : Bool := t == T || (t == "bool" && T == "int")
theorem kitB_all : (tyNames.all fun t => tyNames.all fun T => kitB t T == some (isTy t T)) = true := by decide +kernel
theorem kitB_of {t T : String} (h1 : t ∈ tyNames) (h2 : T ∈ tyNames) : kitB t T = some (isTy t T) := by
  have := List.all_eq_true.mp (List.all_eq_true.mp kitB_all t h1) T h2
  exact eq_of_beq this
theorem tyD_mem {ah : AH} {d : D} {t : String} (h : tyD ah d = some t) : t ∈ tyNames := by
  unfold tyD at h
  split at h <;> first | (cases h; decide) | skip
  · split at h <;> first | (cases h; decide) | cases h
  · cases h
theorem tyD_ok {r : List Addr} {H : Hp} {ah : AH} {d : D} {v : V} {t : String} (hh : HRep K r H ah) (p : Rep K r H d v) (h : tyD ah d = some t) : TyX K H v (.type t) := by
  unfold tyD at h
  split at h
  · cases h; cases p; exact .base .non
  · cases h; cases p; exact .base (.bl _)
  · cases h; cases p; exact .base (.int _)
  · cases h; cases p; exact .base (.str _)
  · cases h
    obtain ⟨a, xs, rfl, sq, _⟩ := p
    rcases sq with sq | ⟨o, its, n, h1, h2, _⟩
    · rcases sq with sq | ⟨o, sq⟩
      · exact .base (.tup sq)
      · exact .fTuple sq
    · exact .kTuple h1 h2
  · cases h
    obtain ⟨a, xs, rfl, sq, _⟩ := p
    rcases sq with ⟨o, sq⟩ | ⟨o, its, n, h1, h2, _⟩
    · exact .base (.frz sq)
    · exact .kList h1 h2
  · obtain ⟨a, e1, rfl⟩ := p
    split at h
    · cases h
      obtain ⟨xs, f, _⟩ := hh.ob _ _ _ e1 (by assumption)
      exact .base (.lst f)
    · cases h
      obtain ⟨xs, f, _⟩ := hh.ob _ _ _ e1 (by assumption)
      exact .base (.dK f)
    · cases h
  · cases h
def gIsi : FA := fun ds ah q => match ds with
  | [d, .ty T] => T ∈ tyNames ∧ (match tyD ah d with
    | some t => q (.bl (isTy t T)) ah
    | none => False)
  | _ => False
theorem cal_isi : Cal X (.builtin "isinstance") gIsi := by
  refine ⟨_, call_isi, fun rr H ah ds vs q Q hh p w hq => ?_⟩
  unfold gIsi at w
  split at w
  · obtain ⟨hT, w⟩ := w
    obtain ⟨v, v', rfl, p1, p2⟩ := p.two_of
    cases p2
    split at w
    · rename_i t e
      exact ⟨v, _, _, _, _, rfl, .ty _, tyD_ok hh p1 e, kit_ty (kitB_of (tyD_mem e) hT), hq.here w hh rfl⟩
    · exact w.elim
  · exact w.elim
def gList : FA := fun ds ah q => match ds with
  | [.tup l] => newL l ah q
  | [.frl l] => newL l ah q
  | [.ref n] => (match ah[n]? with
    | some (.lst l) => newL l ah q
    | _ => False)
  | _ => False
theorem cal_list : Cal X (.type "list") gList := by
  refine ⟨_, call_list_of, fun rr H ah ds vs q Q hh p w hq => ?_⟩
  unfold gList at w
  split at w
  · obtain ⟨v, rfl, a, xs, rfl, sq, rv⟩ := p.one_of
    exact ⟨a, xs, rfl, .inr sq, fun l hl => newL_ok hh rv w hq hl⟩
  · obtain ⟨v, rfl, a, xs, rfl, sq, rv⟩ := p.one_of
    exact ⟨a, xs, rfl, .inl sq.sq, fun l hl => newL_ok hh rv w hq hl⟩
  · obtain ⟨v, rfl, a, e1, rfl⟩ := p.one_of
    split at w
    · obtain ⟨xs, f, rv⟩ := hh.ob _ _ _ e1 (by assumption)
      exact ⟨a, xs, rfl, .inl (.of f), fun l hl => newL_ok hh rv w hq hl⟩
    · exact w.elim
  · exact w.elim
def gTuple : FA := fun ds ah q => match ds with
  | [.tup l] => q (.tup l) ah
  | [.ref n] => (match ah[n]? with
    | some (.lst l) => q (.tup l) ah
    | _ => False)
  | _ => False
theorem cal_tuple : Cal X (.type "tuple") gTuple := by
  refine ⟨_, call_tuple_of, fun rr H ah ds vs q Q hh p w hq => ?_⟩
  unfold gTuple at w
  split at w
  · obtain ⟨v, rfl, a, xs, rfl, sq, rv⟩ := p.one_of
    exact ⟨a, xs, rfl, .inr ⟨sq, hq.here w hh ⟨a, xs, rfl, sq, rv⟩⟩⟩
  · obtain ⟨v, rfl, a, e1, rfl⟩ := p.one_of
    split at w
    · obtain ⟨xs, f, rv⟩ := hh.ob _ _ _ e1 (by assumption)
      exact ⟨a, xs, rfl, .inl ⟨.of f, fun l hl => newT_ok hh rv w hq hl⟩⟩
    · exact w.elim
  · exact w.elim
def gDivmod : FA := fun ds ah q => match ds with
  | [.int i, .int j] => CDiv i j ∧ q (.tup [.int (i / j), .int (i % j)]) ah
  | _ => False
theorem cal_divmod : Cal X (.builtin "divmod") gDivmod := by
  refine ⟨_, call_divmod, fun rr H ah ds vs q Q hh p w hq => ?_⟩
  unfold gDivmod at w
  split at w
  · obtain ⟨v, v', rfl, p1, p2⟩ := p.two_of
    cases p1; cases p2
    exact ⟨_, _, rfl, w.1, fun p hp => newT_ok hh (xs := [.int _, .int _]) ⟨_, _, rfl, rfl, _, _, rfl, rfl, rfl⟩ w.2 hq hp⟩
  · exact w.elim

/-! ### methods of built-in types, by values -/
abbrev FM := D → List D → AH → QE → Prop
structure Met (X : Cx) (T id : String) (g : FM) : Prop where
  ex : ∃ r, MtR X id r ∧ (∀ rr H ah d v ds q, HRep X.K rr H ah → Rep X.K rr H d v → g d ds ah q → tyV X.K T v H) ∧ ∀ rr H ah d v ds vs q Q, HRep X.K rr H ah → Rep X.K rr H d v → Reps X.K rr H ds vs → g d ds ah q → Cn X.K rr H q Q → r v vs H Q
/-- ok: what must hold of the receiver ahead of the arguments -/
def wMet (ok : D → AH → Prop) (g : FM) (o : WE) (w : WA) : WE := fun env ah q x => o env ah (fun d ah1 => ok d ah1 ∧ w env ah1 (fun ds ah2 => g d ds ah2 q) x) x
structure MetX (X : Cx) (T id : String) (ok : D → AH → Prop) (g : FM) : Prop where
  ex : ∃ r, MtR X id r ∧ (∀ rr H ah d v, HRep X.K rr H ah → Rep X.K rr H d v → ok d ah → tyV X.K T v H) ∧ ∀ rr H ah d v ds vs q Q, HRep X.K rr H ah → Rep X.K rr H d v → Reps X.K rr H ds vs → g d ds ah q → Cn X.K rr H q Q → r v vs H Q
theorem de_met {T id : String} {ok : D → AH → Prop} {g : FM} {name : Str} {apos cpos : Pos} (pa : PlainAttrs T) (slot : Slot T name id) (hty : typeOf (.builtin id) = pure (.type "method_descriptor")) (hm : MetX X T id ok g) (ho : DE X a wa) (ha : DA X (e :: es) ws)
    (hbase : attributeBase a name X.env (eval a X.env) = eval a X.env := by rfl)
    (hfew : ((backTo cpos (starEach (e :: es) X.env)).all (fun x => !x.1) && (backToKw cpos (keywordEach [] X.env)).all (fun x => x.1.isSome)
      && decide ((e :: es).length + ([] : List Keyword).length + (if ([] : List Keyword).isEmpty then 0 else 1) < 30)) = true := by rfl)
    (hline : (apos.endLine == cpos.line) = true := by rfl) (hs : starEach (e :: es) X.env = (false, eval e X.env) :: starEach es X.env := by rfl) (hplain : (backTo cpos (starEach es X.env)).any (·.1) = false := by rfl) :
    DE X (.Call (.Attribute a name apos) (e :: es) [] cpos) (wMet ok g wa ws) := fun W tk => by
  obtain ⟨r, q1, q2, q3⟩ := hm.ex
  refine (pe_bm pa slot hty q1 (ho W tk) (ha W tk) hbase hfew hline hs hplain).weak fun s H Q ⟨rr, env, ah, q, x, he, hh, hw, hq, hx⟩ => ?_
  refine ⟨rr, env, ah, _, x, he, hh, hw, fun d ah1 h1 r1 H1 v k1 hh1 p1 => ⟨q2 r1 H1 ah1 d v hh1 p1 h1.1, ?_⟩, hx⟩
  refine ⟨r1, env, ah1, _, x, he.mono k1, hh1, h1.2, fun ds ah2 h2 r2 H2 vs k2 hh2 p2 => ?_, hx.step k1⟩
  exact q3 r2 H2 ah2 d v ds vs q Q hh2 (p1.mono k2) p2 h2 (hq.step (k1.trans k2))
theorem de_met0 {T id : String} {ok : D → AH → Prop} {g : FM} {name : Str} {apos cpos : Pos} (pa : PlainAttrs T) (slot : Slot T name id) (hty : typeOf (.builtin id) = pure (.type "method_descriptor")) (hm : MetX X T id ok g) (ho : DE X a wa)
    (hbase : attributeBase a name X.env (eval a X.env) = eval a X.env := by rfl) (hline : (apos.endLine == cpos.line) = true := by rfl) : DE X (.Call (.Attribute a name apos) [] [] cpos) (wMet ok g wa wNil) := fun W tk => by
  obtain ⟨r, q1, q2, q3⟩ := hm.ex
  refine (pe_bm0 pa slot hty q1 (ho W tk) hbase hline).weak fun s H Q ⟨rr, env, ah, q, x, he, hh, hw, hq, hx⟩ => ?_
  refine ⟨rr, env, ah, _, x, he, hh, hw, fun d ah1 h1 r1 H1 v k1 hh1 p1 => ⟨q2 r1 H1 ah1 d v hh1 p1 h1.1, ?_⟩, hx⟩
  exact q3 r1 H1 ah1 d v [] [] q Q hh1 p1 rfl h1.2 (hq.step k1)
def isStr : D → AH → Prop := fun d _ => match d with
  | .str _ => True
  | _ => False
def isLst : D → AH → Prop := fun d ah => match d with
  | .ref n => (match ah[n]? with
    | some (.lst _) => True
    | _ => False)
  | _ => False
theorem isStr_ty {r : List Addr} {H : Hp} {ah : AH} {d : D} {v : V} (hh : HRep K r H ah) (p : Rep K r H d v) (h : isStr d ah) : tyV K "str" v H := by
  cases d <;> first | exact h.elim | (cases p; rfl)
theorem isLst_ty {r : List Addr} {H : Hp} {ah : AH} {d : D} {v : V} (hh : HRep K r H ah) (p : Rep K r H d v) (h : isLst d ah) : tyV K "list" v H := by
  unfold isLst at h
  split at h
  · obtain ⟨a, e1, rfl⟩ := p
    split at h
    · obtain ⟨xs, f, rv⟩ := hh.ob _ _ _ e1 (by assumption)
      exact .inl ⟨rfl, xs, .of f⟩
    · exact h.elim
  · exact h.elim
def fAppend : FM := fun d ds ah q => match d, ds with
  | .ref n, [y] => (match ah[n]? with
    | some (.lst xs) => xs.length < sizeLine ∧ q .non (ah.set n (.lst (xs ++ [y])))
    | _ => False)
  | _, _ => False
theorem met_append : MetX X "list" "list.append" isLst fAppend := by
  refine ⟨_, mt_append, fun rr H ah d v hh p h => isLst_ty hh p h, fun rr H ah d v ds vs q Q hh p ps w hq => ?_⟩
  unfold fAppend at w
  split at w
  · obtain ⟨a, e1, rfl⟩ := p
    obtain ⟨y', rfl, py⟩ := ps.one_of
    split at w
    · obtain ⟨xs, f, rv⟩ := hh.ob _ _ _ e1 (by assumption)
      have kw := Kp.write (u := .lst (xs ++ [y'])) hh (List.mem_of_getElem? e1)
      exact ⟨a, xs, y', rfl, rfl, f, by rw [rv.length]; exact w.1, hq _ _ w.2 rr _ _ kw (hh.set e1 ⟨_, upd_same, (rv.append (Reps.one py)).mono kw⟩) rfl⟩
    · exact w.elim
  · exact w.elim

/-! ### repr, and further ones -/
theorem Dp.dict : ∀ {H : Hp} {v : V} {d : PyData}, Dp K H v d → d.hasDict = false := by
  intro H
  have main : ∀ (d : PyData), (∀ v, Dp K H v d → d.hasDict = false) := by
    intro d
    refine PyData.rec (motive_1 := fun d => ∀ v, Dp K H v d → d.hasDict = false) (motive_2 := fun ds => ∀ vs, DpAll K H vs ds → PyData.hasDictAll ds = false) (motive_3 := fun _ => True) (motive_4 := fun _ => True) ?_ ?_ ?_ ?_ ?_ ?_ ?_ ?_ ?_ ?_ ?_ ?_ d
    · intro v h; rfl
    · intro b v h; rfl
    · intro b v h; rfl
    · intro b v h; rfl
    · intro xs ih v h
      cases h with
      | lst _ q => exact ih _ q
    · intro xs ih v h
      cases h with
      | tup _ q => exact ih _ q
    · intro kvs _ v h; cases h
    · intro vs h; rfl
    · intro d ds ih1 ih2 vs h
      cases h with
      | cons a b =>
        show (d.hasDict || PyData.hasDictAll ds) = false
        rw [ih1 _ a, ih2 _ b]; rfl
    · trivial
    · intros; trivial
    · intros; trivial
  intro v d h
  exact main d v h
theorem call_reprD (hg : X.A.guards = some []) (hu : X.A.units + 65 < cLine) : CallR X (.builtin "repr") (fun xs H Q => ∃ x d, xs = [x] ∧ Dp X.K H x d ∧ d.showable = true ∧ d.depth ≤ 64 ∧ d.shown.length ≤ sizeLine ∧ Q (.str d.shown) H) := by
  intro pins s σ H xs us Q I r h
  obtain ⟨x, d, rfl, hd, hs, hdp, hl, q⟩ := h
  obtain ⟨u, rfl, rx⟩ := vals1 r
  have hnd := Dp.dict hd
  obtain ⟨as, rd⟩ := Dp.reads I d x u hd rx
  cases x with
  | non => cases hd; cases rx; exact PySem.P.repr_of_none ⟨.str _, H, I.tok _, ⟨_, rfl⟩, q⟩
  | bl b => cases hd; cases rx; exact PySem.P.repr_of_bool ⟨.str _, H, I.tok _, ⟨_, rfl⟩, by cases b <;> exact q⟩
  | int i => cases hd; obtain ⟨t, rfl⟩ := rx; exact PySem.P.repr_of_int (of_decide_eq_true hs) ⟨.str _, H, I.tok _, ⟨_, rfl⟩, q⟩
  | str z => cases hd; obtain ⟨t, rfl⟩ := rx; exact PySem.P.repr_of_str ⟨.str _, H, I.tok _, ⟨_, rfl⟩, q⟩ hl
  | ref a =>
    cases rx
    exact repr_of_reads' rd hs (PyData.noDict_hsm hnd) hg (by omega) (fun _ _ e => e) (fun h' u tk hk => ⟨.str _, H, I.kept hk, ⟨_, rfl⟩, q⟩) hl
  | _ => cases hd
/-! data with empty dicts -/
def pdz : Nat → AH → D → Option PyData
  | _, _, .non => some .none
  | _, _, .bl b => some (.bool b)
  | _, _, .int i => some (.int i)
  | _, _, .str s => some (.str s)
  | n + 1, ah, .tup l => (pds (pdz n ah) l).map .tuple
  | n + 1, ah, .frl l => (pds (pdz n ah) l).map .list
  | n + 1, ah, .ref k => (match ah[k]? with
    | some (.lst xs) => (pds (pdz n ah) xs).map .list
    | some (.dct []) => some (.dict [])
    | _ => none)
  | _, _, _ => none
theorem pds_imp {f g : D → Option PyData} (h : ∀ d p, f d = some p → g d = some p) : ∀ {l : List D} {ps : List PyData}, pds f l = some ps → pds g l = some ps
  | [], _, e => e
  | d :: l, _, e => by
    unfold pds at e ⊢
    split at e
    · rename_i x y e1 e2
      rw [h _ _ e1, pds_imp h e2]
      exact e
    · cases e
theorem pd_pdz (ah : AH) : ∀ (n : Nat) (d : D) (p : PyData), pd n ah d = some p → pdz n ah d = some p := by
  intro n
  induction n with
  | zero => intro d p e; cases d <;> first | exact e | cases e
  | succ n ih =>
    intro d p e
    cases d with
    | tup l =>
      unfold pd at e
      unfold pdz
      cases z : pds (pd n ah) l with
      | none => rw [z] at e; cases e
      | some ps => rw [z] at e; rw [pds_imp ih z]; exact e
    | frl l =>
      unfold pd at e
      unfold pdz
      cases z : pds (pd n ah) l with
      | none => rw [z] at e; cases e
      | some ps => rw [z] at e; rw [pds_imp ih z]; exact e
    | ref k =>
      unfold pd at e
      unfold pdz
      split at e
      · rename_i xs q
        rw [q]
        cases z : pds (pd n ah) xs with
        | none => rw [z] at e; cases e
        | some ps =>
          rw [z] at e
          show (pds (pdz n ah) xs).map PyData.list = _
          rw [pds_imp ih z]; exact e
      · cases e
    | _ => first | exact e | cases e
/-- the module table is there, and is a dict -/
def SmK (K : PySem.W.Frag) : Prop := ∃ o, K.lookup sysModules = some o ∧ o.cls = .type "dict"
def xSM : PySem.W.Frag → Bool := fun K => match K.lookup sysModules with
  | some o => decide (o.cls = .type "dict")
  | none => false
theorem xSM_ok {K : PySem.W.Frag} (h : xSM K = true) : SmK K := by
  unfold xSM at h
  split at h
  · exact ⟨_, by assumption, of_decide_eq_true h⟩
  · cases h
mutual
inductive Dz (K : PySem.W.Frag) (H : Hp) : V → PyData → Prop
  | non : Dz K H .non .none
  | bl (b : Bool) : Dz K H (.bl b) (.bool b)
  | int (i : Int) : Dz K H (.int i) (.int i)
  | str (x : Str) : Dz K H (.str x) (.str x)
  | lst {a : Addr} {xs : List V} {ds : List PyData} : SqL K H a xs → DzAll K H xs ds → Dz K H (.ref a) (.list ds)
  | tup {a : Addr} {xs : List V} {ds : List PyData} : SqT K H a xs → DzAll K H xs ds → Dz K H (.ref a) (.tuple ds)
  | dct {a : Addr} : H a = some (.dK []) → Dz K H (.ref a) (.dict [])
inductive DzAll (K : PySem.W.Frag) (H : Hp) : List V → List PyData → Prop
  | nil : DzAll K H [] []
  | cons {v : V} {vs : List V} {d : PyData} {ds : List PyData} : Dz K H v d → DzAll K H vs ds → DzAll K H (v :: vs) (d :: ds)
end
section
variable {X : Cx} {pins : List (Addr × Obj)} {σ : L2.St} {H : Hp} {s : Shared}
mutual
theorem Dz.reads (I : Inv X pins σ H s) (sm : SmK X.K) : ∀ (d : PyData) (v : V) (u : Value), Dz X.K H v d → RelV v u → ∃ as, Reads s.heap u d as ∧ sysModules ∉ as
  | .none, _, _, h, r => by
    cases h
    cases r
    exact ⟨_, Reads.none, by simp⟩
  | .bool b, _, _, h, r => by
    cases h
    cases r
    exact ⟨_, Reads.bool b, by simp⟩
  | .int i, _, _, h, r => by
    cases h
    obtain ⟨t, rfl⟩ := r
    exact ⟨_, Reads.int i t, by simp⟩
  | .str x, _, _, h, r => by
    cases h
    obtain ⟨t, rfl⟩ := r
    exact ⟨_, Reads.str x t, by simp⟩
  | .list ds, _, _, h, r => by
    cases h with
    | lst hs ha =>
      cases r
      obtain ⟨its, rv, ⟨o, n, ho, hc, _, hd⟩, _⟩ := I.list hs
      obtain ⟨as, hr, hn⟩ := Dz.readsAll I sm ds _ its ha rv
      refine ⟨_, Reads.list ho hc hd hr, fun z => ?_⟩
      rcases List.mem_cons.mp z with z | z
      · obtain ⟨o', e1, e2⟩ := sm
        rw [← z, I.kIn _ _ e1] at ho
        cases ho
        rw [e2] at hc
        exact absurd hc (by decide)
      · exact hn z
  | .tuple ds, _, _, h, r => by
    cases h with
    | tup hs ha =>
      cases r
      obtain ⟨its, rv, ⟨o, ho, hc, n, hd⟩, _⟩ := I.tuple hs
      obtain ⟨as, hr, hn⟩ := Dz.readsAll I sm ds _ its ha rv
      exact ⟨_, Reads.tuple ho hc hd hr, hn⟩
  | .dict [], _, _, h, r => by
    cases h with
    | dct hs =>
      cases r
      obtain ⟨_, hne, vs, kv, o, es, ep, ho, hx, hd, _, hp, _⟩ := (show ObjOk _ _ H s.heap _ (.dK []) from I.hok _ _ hs)
      cases kv
      have e0 : es.toList = [] := by
        cases q : es.toList with
        | nil => rfl
        | cons a l => rw [q] at hp; cases hp
      refine ⟨_, Reads.dict (kvs := []) ho hx.1 hd (by rw [e0]; exact ReadsAll.nil) (by rw [e0]; exact ReadsAll.nil), fun z => ?_⟩
      simp at z
      rw [← z] at hne
      simp at hne
  | .dict (_ :: _), _, _, h, _ => by cases h
theorem Dz.readsAll (I : Inv X pins σ H s) (sm : SmK X.K) : ∀ (ds : List PyData) (vs : List V) (us : List Value), DzAll X.K H vs ds → Vals vs us → ∃ as, ReadsAll s.heap us ds as ∧ sysModules ∉ as
  | [], _, _, h, r => by
    cases h
    cases r
    exact ⟨_, ReadsAll.nil, by simp⟩
  | d :: ds, _, _, h, r => by
    cases h with
    | cons h1 h2 =>
      cases r with
      | cons r1 r2 =>
        obtain ⟨as, a1, n1⟩ := Dz.reads I sm d _ _ h1 r1
        obtain ⟨bs, b1, n2⟩ := Dz.readsAll I sm ds _ _ h2 r2
        exact ⟨_, ReadsAll.cons a1 b1, fun z => (List.mem_append.mp z).elim n1 n2⟩
end
theorem call_reprZ (sm : SmK X.K) (hg : X.A.guards = some []) (hu : X.A.units + 65 < cLine) : CallR X (.builtin "repr") (fun xs H Q => ∃ x d, xs = [x] ∧ Dz X.K H x d ∧ d.showable = true ∧ d.depth ≤ 64 ∧ d.shown.length ≤ sizeLine ∧ Q (.str d.shown) H) := by
  intro pins s σ H xs us Q I r h
  obtain ⟨x, d, rfl, hd, hs, hdp, hl, q⟩ := h
  obtain ⟨u, rfl, rx⟩ := vals1 r
  obtain ⟨as, rd, hn⟩ := Dz.reads I sm d x u hd rx
  cases x with
  | non => cases hd; cases rx; exact PySem.P.repr_of_none ⟨.str _, H, I.tok _, ⟨_, rfl⟩, q⟩
  | bl b => cases hd; cases rx; exact PySem.P.repr_of_bool ⟨.str _, H, I.tok _, ⟨_, rfl⟩, by cases b <;> exact q⟩
  | int i => cases hd; obtain ⟨t, rfl⟩ := rx; exact PySem.P.repr_of_int (of_decide_eq_true hs) ⟨.str _, H, I.tok _, ⟨_, rfl⟩, q⟩
  | str z => cases hd; obtain ⟨t, rfl⟩ := rx; exact PySem.P.repr_of_str ⟨.str _, H, I.tok _, ⟨_, rfl⟩, q⟩ hl
  | ref a =>
    cases rx
    exact repr_of_reads' rd hs (fun _ => hn) hg (by omega) (fun _ _ e => e) (fun h' u tk hk => ⟨.str _, H, I.kept hk, ⟨_, rfl⟩, q⟩) hl
  | _ => cases hd
end
theorem pds_dz {K : PySem.W.Frag} {f : D → Option PyData} {r : List Addr} {H : Hp} (h : ∀ d v p, Rep K r H d v → f d = some p → Dz K H v p) : ∀ {l : List D} {vs : List V} {ps : List PyData}, Reps K r H l vs → pds f l = some ps → DzAll K H vs ps
  | [], _, _, e, e2 => by cases e; cases e2; exact .nil
  | d :: l, _, _, ⟨v, vr, e, p, q⟩, e2 => by
    subst e
    unfold pds at e2
    split at e2
    · cases e2
      exact .cons (h _ _ _ p (by assumption)) (pds_dz h q (by assumption))
    · cases e2
theorem pdz_dz {K : PySem.W.Frag} {r : List Addr} {H : Hp} {ah : AH} (hh : HRep K r H ah) : ∀ (n : Nat) (d : D) (v : V) (p : PyData), Rep K r H d v → pdz n ah d = some p → Dz K H v p := by
  intro n
  induction n with
  | zero =>
    intro d v p h e
    cases d <;> first | (cases e; cases h; constructor) | cases e
  | succ n ih =>
    intro d v p h e
    cases d with
    | non => cases e; cases h; constructor
    | bl b => cases e; cases h; constructor
    | int b => cases e; cases h; constructor
    | str b => cases e; cases h; constructor
    | ty n => cases e
    | glo n => cases e
    | fn f c q l us => cases e
    | tup l =>
      obtain ⟨a, xs, rfl, s, q⟩ := h
      unfold pdz at e
      cases z : pds (pdz n ah) l with
      | none => rw [z] at e; cases e
      | some ps => rw [z] at e; cases e; exact .tup s (pds_dz ih q z)
    | frl l =>
      obtain ⟨a, xs, rfl, s, q⟩ := h
      unfold pdz at e
      cases z : pds (pdz n ah) l with
      | none => rw [z] at e; cases e
      | some ps => rw [z] at e; cases e; exact .lst s.sq (pds_dz ih q z)
    | ref k =>
      obtain ⟨a, q1, rfl⟩ := h
      unfold pdz at e
      split at e
      · rename_i xs q2
        obtain ⟨vs, f1, r1⟩ := hh.ob _ _ _ q1 q2
        cases z : pds (pdz n ah) xs with
        | none => rw [z] at e; cases e
        | some ps => rw [z] at e; cases e; exact .lst (.of f1) (pds_dz ih r1 z)
      · rename_i q2
        obtain ⟨vs, f1, r1⟩ := hh.ob _ _ _ q1 q2
        cases r1
        cases e
        exact .dct f1
      · cases e
def gRepr : FA := fun ds ah q => match ds with
  | [d] => (match pdz 20 ah d with
    | some p => p.showable = true ∧ p.depth ≤ 64 ∧ p.shown.length ≤ sizeLine ∧ q (.str p.shown) ah
    | none => False)
  | _ => False
theorem cal_repr {X : Cx} (sm : SmK X.K) (hg : X.A.guards = some []) (hu : X.A.units + 65 < cLine) : Cal X (.builtin "repr") gRepr := by
  refine ⟨_, call_reprZ sm hg hu, fun rr H ah ds vs q Q hh p w hq => ?_⟩
  unfold gRepr at w
  split at w
  · obtain ⟨v, rfl, p1⟩ := p.one_of
    split at w
    · exact ⟨v, _, rfl, pdz_dz hh _ _ _ _ p1 (by assumption), w.1, w.2.1, w.2.2.1, hq.here w.2.2.2 hh rfl⟩
    · exact w.elim
  · exact w.elim
def gMaxL : FA := fun ds ah q => match ds with
  | [.ref n] => (match ah[n]? with
    | some (.lst l) => ∃ ns : List Int, l = ns.map D.int ∧ 0 < ns.length ∧ ∀ m, m ∈ ns → (∀ y, y ∈ ns → y ≤ m) → q (.int m) ah
    | _ => False)
  | _ => False
theorem cal_maxL (hc : X.calm = true) : Cal X (.builtin "max") gMaxL := by
  refine ⟨_, cr_max hc, fun rr H ah ds vs q Q hh p w hq => ?_⟩
  unfold gMaxL at w
  split at w
  · obtain ⟨v, rfl, a, e1, rfl⟩ := p.one_of
    split at w
    · obtain ⟨ns, rfl, h0, w⟩ := w
      obtain ⟨xs, f, rv⟩ := hh.ob _ _ _ e1 (by assumption)
      rw [rv.ints_of] at f
      exact ⟨a, ns, rfl, .of f, h0, fun m h1 h2 => hq.here (w m h1 h2) hh rfl⟩
    · exact w.elim
  · exact w.elim
def fSIndex : FM := fun d ds ah q => match d, ds with
  | .str z, [.str y] => ∃ i rest, Builtin.Str.occurrences z y 0 z.length 1 = i :: rest ∧ q (.int (i : Nat)) ah
  | _, _ => False
theorem met_sindex : MetX X "str" "str.index" isStr fSIndex := by
  refine ⟨_, mt_sindex, fun rr H ah d v hh p h => isStr_ty hh p h, fun rr H ah d v ds vs q Q hh p ps w hq => ?_⟩
  unfold fSIndex at w
  split at w
  · obtain ⟨y', rfl, py⟩ := ps.one_of
    cases p; cases py
    obtain ⟨i, rest, e, w⟩ := w
    exact ⟨_, _, i, rest, rfl, rfl, e, hq.here w hh rfl⟩
  · exact w.elim
def fJoin : FM := fun d ds ah q => match d, ds with
  | .str z, [.ref n] => (match ah[n]? with
    | some (.lst l) => ∃ ys : List Str, l = ys.map D.str ∧ (ys.map (·.length)).sum + ys.length * z.length ≤ 16777216 ∧ q (.str (Txt.join z ys)) ah
    | _ => False)
  | _, _ => False
theorem met_join : MetX X "str" "str.join" isStr fJoin := by
  refine ⟨_, mt_join, fun rr H ah d v hh p h => isStr_ty hh p h, fun rr H ah d v ds vs q Q hh p ps w hq => ?_⟩
  unfold fJoin at w
  split at w
  · obtain ⟨y', rfl, a, e1, rfl⟩ := ps.one_of
    cases p
    split at w
    · obtain ⟨ys, rfl, hl, w⟩ := w
      obtain ⟨xs, f, rv⟩ := hh.ob _ _ _ e1 (by assumption)
      rw [rv.strs_of] at f
      exact ⟨_, a, ys, rfl, rfl, .inl (.of f), hl, hq.here w hh rfl⟩
    · exact w.elim
  · exact w.elim
/-- xs[::-1] of a list -/
def wRev (w : WE) : WE := fun env ah q x => w env ah (fun d ah1 => match d with
  | .ref n => (match ah1[n]? with
    | some (.lst l) => newL l.reverse ah1 q
    | _ => False)
  | _ => False) x
theorem de_rev {k : Nat} {p1 p2 p3 : Pos} (h : DE X e we) : DE X (.Subscript e (.Slice none none (some (.UnaryOp .USub (.Constant (.int 1) k p1) p2)) p3) pos) (wRev we) := fun W tk =>
  (pe_revL (h W tk)).weak fun s H Q ⟨r, env, ah, q, x, he, hh, hw, hq, hx⟩ => by
    refine ⟨r, env, ah, _, x, he, hh, hw, fun d ah1 h1 r1 H1 v k1 hh1 p1 => ?_, hx⟩
    dsimp only at h1
    split at h1
    · obtain ⟨a, e1, rfl⟩ := p1
      split at h1
      · obtain ⟨xs, f, rv⟩ := hh1.ob _ _ _ e1 (by assumption)
        exact ⟨a, xs, rfl, .of f, fun p hp => newL_ok hh1 rv.reverse h1 (hq.step k1) hp⟩
      · exact h1.elim
    · exact h1.elim

/-! ### a dict's display -/
abbrev WD := En → AH → (List (D × D) → AH → Prop) → QX → Prop
def wdNil : WD := fun _ ah q _ => q [] ah
def wdCons (k v : WE) (r : WD) : WD := fun env ah q x => k env ah (fun d ah1 => v env ah1 (fun d' ah2 => r env ah2 (fun ps ah3 => q ((d, d') :: ps) ah3) x) x) x
def keysD : List (D × D) → Option (List (Key × D))
  | [] => some []
  | (k, d) :: l => match keyD k, keysD l with
    | some k, some l => some ((k, d) :: l)
    | _, _ => none
def wDict (w : WD) : WE := fun env ah q x => w env ah (fun ps ah1 => match keysD ps with
  | some kvs => kvs.length ≤ 15 ∧ q (.ref ah1.length) (ah1 ++ [.dct (kvs.foldl (fun acc kv => putD acc kv.1 kv.2) [])])
  | none => False) x
def RepPs (K : PySem.W.Frag) (r : List Addr) (H : Hp) : List (D × D) → List (V × V) → Prop
  | [], vs => vs = []
  | (k, d) :: l, vs => ∃ u v vr, vs = (u, v) :: vr ∧ Rep K r H k u ∧ Rep K r H d v ∧ RepPs K r H l vr
def LD (K : PySem.W.Frag) (w : WD) (W : WX) (p : Addr) : L2.St → Hp → (List (V × V) → Hp → Prop) → Prop := fun s H Q => ∃ r env ah q x, ERep K r H env s ∧ HRep K r H ah ∧ p ∉ r ∧ H p = some (.dK []) ∧ w env ah q x ∧
  (∀ ps ah', q ps ah' → ∀ r' H' vs, Kp K r H r' H' → HRep K r' H' ah' → p ∉ r' → H' p = some (.dK []) → RepPs K r' H' ps vs → Q vs H') ∧ CnX K r H x (fun c d H' => W c d s H')
structure DDs (X : Cx) (pos : Pos) (keys : List (Option Expr)) (values : List Expr) (w : WD) : Prop where
  ex : ∀ W, Takes X W → ∃ trs, PPs X pos keys values trs ∧ ∀ p s H Q, LD X.K w W p s H Q → tPairs trs s H Q
theorem dd_nil : DDs X pos [] [] wdNil := ⟨fun W tk => ⟨_, pps_nil, fun p s H Q ⟨r, env, ah, q, x, he, hh, np, ep, hw, hq, hx⟩ => hq _ _ hw r H [] Kp.refl hh np ep rfl⟩⟩
theorem Kp.off {r r' : List Addr} {H H' : Hp} {p : Addr} {u : HO} (k : Kp K r H r' H') (np : p ∉ r) (ep : H p = some u) (nt : ∀ ps, u ≠ .tbl ps) : p ∉ r' ∧ H' p = some u := by
  refine ⟨fun z => ?_, k.out p u np ep nt⟩
  rcases k.new p z with z | z
  · exact np z
  · rw [ep] at z; cases z
theorem dd_cons {ke ve : Expr} {ks : List (Option Expr)} {vs : List Expr} {wk wv : WE} {wr : WD} (hk : DE X ke wk) (hv : DE X ve wv) (hr : DDs X pos ks vs wr) : DDs X pos (some ke :: ks) (ve :: vs) (wdCons wk wv wr) := ⟨fun W tk => by
  obtain ⟨trs, h1, h2⟩ := hr.ex W tk
  refine ⟨_, pps_cons (hk W tk) (hv W tk) h1, fun p s H Q ⟨r, env, ah, q, x, he, hh, np, ep, hw, hq, hx⟩ => ?_⟩
  refine ⟨r, env, ah, _, x, he, hh, hw, fun d ah1 g1 r1 H1 v1 k1 hh1 p1 => ?_, hx⟩
  obtain ⟨np1, ep1⟩ := k1.off np ep (by simp)
  refine ⟨r1, env, ah1, _, x, he.mono k1, hh1, g1, fun d2 ah2 g2 r2 H2 v2 k2 hh2 p2 => ?_, hx.step k1⟩
  obtain ⟨np2, ep2⟩ := k2.off np1 ep1 (by simp)
  have k12 := k1.trans k2
  refine h2 p s H2 _ ⟨r2, env, ah2, _, x, he.mono k12, hh2, np2, ep2, g2, fun ps ah3 g3 r3 H3 vs k3 hh3 np3 ep3 p3 => ?_, hx.step k12⟩
  exact hq _ _ g3 r3 H3 _ (k12.trans k3) hh3 np3 ep3 ⟨_, _, _, rfl, (p1.mono k2).mono k3, p2.mono k3, p3⟩⟩

theorem repPs_keys {r : List Addr} {H : Hp} : ∀ {ps : List (D × D)} {vs : List (V × V)} {kvs : List (Key × D)}, RepPs K r H ps vs → keysD ps = some kvs → ∃ ws : List (Key × V), vs = ws.map (fun kv => (kV kv.1, kv.2)) ∧ RepF K r H kvs ws
  | [], vs, kvs, h, e => by cases h; cases e; exact ⟨[], rfl, rfl⟩
  | (k, d) :: l, vs, kvs, ⟨u, v, vr, e1, p1, p2, p3⟩, e => by
    unfold keysD at e
    split at e
    · rename_i k' l' h1 h2
      cases e
      obtain ⟨ws, rfl, p⟩ := repPs_keys p3 h2
      rw [keyD_rep p1 h1] at e1
      exact ⟨(k', v) :: ws, e1, v, ws, rfl, p2, p⟩
    · cases e
theorem mergeD_rep {r : List Addr} {H : Hp} : ∀ {kvs : List (Key × D)} {ws : List (Key × V)} {acc : List (Key × D)} {as : List (Key × V)}, RepF K r H kvs ws → RepF K r H acc as → RepF K r H (kvs.foldl (fun acc kv => putD acc kv.1 kv.2) acc) (mergeK as ws)
  | [], ws, acc, as, h, q => by cases h; exact q
  | (k, d) :: l, ws, acc, as, ⟨v, vr, e, p, p2⟩, q => by subst e; exact mergeD_rep (kvs := l) (ws := vr) (acc := putD acc k d) (as := putK as k v) p2 (putD_rep k q p)
theorem sqT_late {H : Hp} {p : Addr} {u : HO} (ep : H p = some (.dK [])) {b : Addr} {xs : List V} (h : SqT K H b xs) : SqT K (upd H p u) b xs := by
  rcases h with h | h
  · refine .inl ?_
    rcases h with h | ⟨o, h⟩
    · exact .inl (by rw [upd_ne (fun z => by rw [z, ep] at h; cases h)]; exact h)
    · exact .inr ⟨o, by rw [upd_ne (fun z => by rw [z, ep] at h; cases h)]; exact h⟩
  · exact .inr h
theorem sqF_late {H : Hp} {p : Addr} {u : HO} (ep : H p = some (.dK [])) {b : Addr} {xs : List V} (h : SqF K H b xs) : SqF K (upd H p u) b xs := by
  rcases h with ⟨o, h⟩ | h
  · exact .inl ⟨o, by rw [upd_ne (fun z => by rw [z, ep] at h; cases h)]; exact h⟩
  · exact .inr h
theorem pre_late {r : List Addr} {p : Addr} (n : Nat) (a : Addr) (h : r[n]? = some a) : (r ++ [p])[n]? = some a := by
  rw [List.getElem?_append_left (List.getElem?_eq_some_iff.mp h).1]; exact h
theorem code_late {r : List Addr} {H : Hp} {p : Addr} {u : HO} (np : p ∉ r) (ep : H p = some (.dK [])) (c : Addr) (q : Str) (g1 : c ∉ r) (g2 : H c = some (LamX.CodeO c q)) : c ∉ r ++ [p] ∧ upd H p u c = some (LamX.CodeO c q) := by
  have nc : c ≠ p := fun z => by rw [z, ep] at g2; cases g2
  exact ⟨fun z => (List.mem_append.mp z).elim g1 fun z => nc (List.mem_singleton.mp z), by rw [upd_ne nc]; exact g2⟩
theorem Kp.late {r r1 : List Addr} {H H1 : Hp} {p : Addr} {u : HO} (k : Kp K r (upd H p (.dK [])) r1 H1) (hp : H p = none) (np : p ∉ r1) (ep : H1 p = some (.dK [])) : Kp K r H (r1 ++ [p]) (upd H1 p u) := by
  refine ⟨fun n a h => pre_late n a (k.pre n a h), fun a xs h => sqT_late ep (k.tup a xs (sqT_new hp h)), fun a xs h => sqF_late ep (k.frl a xs (sqF_new hp h)), fun b o nb e nt => ?_, fun b hb => ?_, fun b ps e => ?_⟩
  · have ne : b ≠ p := ne_of_none e hp
    rw [upd_ne ne]
    exact k.out b o nb (by rw [upd_ne ne]; exact e) nt
  · rcases List.mem_append.mp hb with z | z
    · rcases k.new b z with q | q
      · exact .inl q
      · by_cases hbp : b = p
        · subst hbp; exact .inr hp
        · rw [upd_ne hbp] at q; exact .inr q
    · rw [List.mem_singleton.mp z]; exact .inr hp
  · have ne : b ≠ p := ne_of_none e hp
    obtain ⟨m, z⟩ := k.tb b ps (by rw [upd_ne ne]; exact e)
    exact ⟨m, by rw [upd_ne ne]; exact z⟩
theorem HRep.late {r : List Addr} {H : Hp} {ah : AH} {p : Addr} {u : HO} {o : O} (h : HRep K r H ah) (np : p ∉ r) (ep : H p = some (.dK [])) (q : ORep K (r ++ [p]) (upd H p u) p o) : HRep K (r ++ [p]) (upd H p u) (ah ++ [o]) := by
  refine ⟨by simp [h.len], ?_, fun n a o' e1 e2 => ?_, fun b ps e => ?_, te_of h.te fun b ps e => ⟨#[], by rw [upd_ne (fun z => by rw [z, ep] at e; cases e), e]; simp⟩⟩
  rotate_left 2
  · obtain ⟨w, hw, _, _, _, nt⟩ := q.has
    by_cases hb : b = p
    · subst hb; rw [hw] at e; exact (nt ps (Option.some.inj e)).elim
    · rw [upd_ne hb] at e
      refine (h.tb b ps e).keep (upd_ne hb) fun c h1 h2 => ?_
      have nc : c ≠ p := fun z => by rw [z, ep] at h2; cases h2
      exact ⟨fun z => (List.mem_append.mp z).elim h1 fun z => nc (List.mem_singleton.mp z), by rw [upd_ne nc]; exact h2⟩
  · rw [List.nodup_append]
    exact ⟨h.nd, by simp, fun x hx y hy z => np (by rw [← List.mem_singleton.mp hy, ← z]; exact hx)⟩
  · by_cases hn : n < r.length
    · rw [List.getElem?_append_left hn] at e1
      rw [List.getElem?_append_left (by rw [← h.len]; exact hn)] at e2
      have hr := h.ob n a o' e1 e2
      have ne : a ≠ p := fun z => np (z ▸ List.mem_of_getElem? e1)
      have fm : ∀ {α : Type} {l : List (α × D)} {vs : List (α × V)}, RepF K r H l vs → RepF K (r ++ [p]) (upd H p u) l vs := fun w => w.mono3 pre_late (fun _ _ => sqT_late ep) (fun _ _ => sqF_late ep) (code_late np ep)
      have off : ∀ {d : Addr} {x : HO}, H d = some x → x ≠ .dK [] → d ∉ r → d ∉ r ++ [p] ∧ upd H p u d = some x := fun {d x} h1 h2 h3 => by
        have nd : d ≠ p := fun z => by rw [z, ep] at h1; cases h1; exact h2 rfl
        exact ⟨fun z => (List.mem_append.mp z).elim h3 fun z => nd (List.mem_singleton.mp z), by rw [upd_ne nd]; exact h1⟩
      cases o' with
      | lst xs => obtain ⟨vs, z, w⟩ := hr; exact ⟨vs, by rw [upd_ne ne]; exact z, w.mono3 pre_late (fun _ _ => sqT_late ep) (fun _ _ => sqF_late ep) (code_late np ep)⟩
      | dct xs => obtain ⟨vs, z, w⟩ := hr; exact ⟨vs, by rw [upd_ne ne]; exact z, fm w⟩
      | dcl xs => obtain ⟨vs, o, z, w⟩ := hr; exact ⟨vs, o, by rw [upd_ne ne]; exact z, fm w⟩
      | ins C xs => obtain ⟨dx, vs, z, h1, h2, w⟩ := hr; exact ⟨dx, vs, by rw [upd_ne ne]; exact z, (off h2 (by simp) h1).1, (off h2 (by simp) h1).2, fm w⟩
      | exc C xs =>
        obtain ⟨dx, vs, z, h1, h2, w⟩ := hr
        exact ⟨dx, vs, by rw [upd_ne ne]; exact z, fun d hd => off (h1 d hd).2 (by simp) (h1 d hd).1, h2, fm w⟩
      | raw x => obtain ⟨z, w⟩ := hr; exact ⟨by rw [upd_ne ne]; exact z, w⟩
    · rw [List.getElem?_append_right (by omega)] at e1
      rw [List.getElem?_append_right (by rw [← h.len]; omega)] at e2
      rw [h.len] at e1
      cases m : n - ah.length with
      | zero => rw [m] at e1 e2; cases e1; cases e2; exact q
      | succ k => rw [m] at e1; simp at e1
theorem de_dict {ks : List (Option Expr)} {vs : List Expr} {w : WD} (h : DDs X pos ks vs w) (hall : ks.all (·.isSome) = true := by rfl) (hl : ks.length = vs.length := by rfl) (h0 : ks ≠ [] := by simp) (h15 : ks.length ≤ 15 := by decide) : DE X (.Dict ks vs pos) (wDict w) := fun W tk => by
  obtain ⟨trs, h1, h2⟩ := h.ex W tk
  refine (pe_disp h1 hall hl h0 h15).weak fun s H Q ⟨r, env, ah, q, x, he, hh, hw, hq, hx⟩ p hp => ?_
  refine h2 p s _ _ ⟨r, env, ah, _, x, he.mono (Kp.new_ hp), hh.new_ hp, hh.fresh hp, upd_same, hw, fun ps ah1 g r1 H1 vs k1 hh1 np ep pr => ?_, hx.step (Kp.new_ hp)⟩
  split at g
  · obtain ⟨ws, e, rf⟩ := repPs_keys pr (by assumption)
    refine ⟨ep, ws, e, by rw [rf.length]; exact g.1, hq _ _ g.2 _ _ _ (k1.late hp np ep) (hh1.late np ep ⟨_, upd_same, (mergeD_rep rf (show RepF X.K r1 H1 [] [] from rfl)).mono3 pre_late (fun _ _ => sqT_late ep) (fun _ _ => sqF_late ep) (code_late np ep)⟩) ⟨p, ?_, rfl⟩⟩
    rw [List.getElem?_append_right (by rw [hh1.len]; exact Nat.le_refl _), hh1.len, Nat.sub_self]; rfl
  · exact g.elim
end
end Z
namespace Z
open PySem PySem.Spec PyProof.Rows L2
/-- room, and no repr runs around -/
structure RoomG (k : Nat) (A : Around) : Prop where
  room : Room k A
  gd : A.guards = some []
theorem RoomG.mono {j k : Nat} {A : Around} (r : RoomG k A) (h : j ≤ k) : RoomG j A := ⟨r.room.mono h, r.gd⟩
theorem RoomG.units {k : Nat} {A : Around} (r : RoomG k A) : A.units + 64 < cLine := r.room.units
theorem RoomG.u65 {k : Nat} {A : Around} (r : RoomG k A) : A.units + 65 < cLine := by have := r.room.un; omega
theorem RoomG.units1 {k : Nat} {A : Around} (r : RoomG k A) : A.units + 1 < cLine := by have := r.room.un; omega
/-- a def's promise where no repr runs around -/
structure FnG (P : Program) (wd : World) (K : PySem.W.Frag) (mg : Str → Option Value) (base : Heap) (k : Nat) (f : Addr) (fd : FuncData) (ps : List Str) (sp : Sp) : Prop where
  len : ∀ vs H Q E, sp vs H Q E → vs.length = ps.length
  run : ∀ (A : Around) (outer : List Env) (s : Shared) (H : Hp) (args : Args) (us : List Value) (vs : List V) (Q : VK) (E : XK), RoomG k A → Env0 P wd K mg base A outer s H → BindsTo s fd args (ps.zip us) → Vals vs us → sp vs H Q E →
    codeAny (model P wd) A (.call (.ref f) args) (CR (L2.CX P wd) outer P wd H s Q E) s
theorem FnG.mono {P : Program} {wd : World} {K : PySem.W.Frag} {mg : Str → Option Value} {base : Heap} {j k : Nat} {f : Addr} {fd : FuncData} {ps : List Str} {sp : Sp} (F : FnG P wd K mg base j f fd ps sp) (h : j ≤ k) : FnG P wd K mg base k f fd ps sp :=
  ⟨F.len, fun A outer s H args us vs Q E hr => F.run A outer s H args us vs Q E (hr.mono h)⟩
section
variable {X : Cx} {K : PySem.W.Frag} {u : WS} {e : Expr} {es : List Expr} {ws : WA} {pos : Pos}
/-! ### defs -/
def LSp (K : PySem.W.Frag) (sp : DSp) : Sp := fun vs H Q E => ∃ r ds ah q x, Reps K r H ds vs ∧ HRep K r H ah ∧ sp ds ah q x ∧ Cn K r H q Q ∧ CnX K r H x E
abbrev DFn (P : Program) (wd : World) (K : PySem.W.Frag) (mg : Str → Option Value) (base : Heap) (k : Nat) (f : Addr) (fd : FuncData) (ps : List Str) (sp : DSp) : Prop := FnG P wd K mg base k f fd ps (LSp K sp)
def startD (n : Nat) (ds : List D) : En := ds.map some ++ List.replicate (n - ds.length) none
variable {P : Program} {wd : World} {mg : Str → Option Value} {base : Heap} {k : Nat} {f : Addr} {fd : FuncData} {ps N : List Str} {sp : DSp}
theorem dfn_of {x qual : Str} {params : Arguments} {body : List Stmt} {scope : Scope} {dvs : List V} {kws : List (Str × V)} (F : FunD K x qual params body scope dvs kws f fd) (S : FnScope N ps scope) (len : ∀ ds ah q x, sp ds ah q x → ds.length = ps.length)
    (hbody : ∀ (cdv : Value) (A : Around) (outer : List Env) (s : Shared) (H : Hp) (E : XK), RoomG k (A.deeper (envOfC qual scope s.heap.objs.size f cdv)) → DSs (cxOf (L2.CX P wd) P wd K mg base N qual scope f cdv A outer s H E) body u)
    (hsp : ∀ ds ah q x, sp ds ah q x → u (startD N.length ds) ah { nx := fun _ ah' => q .non ah', rt := q } (fun e _ ah' => x e ah')) : DFn P wd K mg base (k + 1) f fd ps sp := by
  obtain ⟨oc, od, dV, kV, doc, pm, an, cdv, ct, osl, rfl, lk, hcd, _, _⟩ := F.ex
  refine ⟨fun vs H Q E ⟨r, ds, ah, q, x, rv, hh, h, hq, hx⟩ => by rw [rv.length]; exact len _ _ _ _ h, fun A outer s H args us vs Q E hr e0 hb rv0 ⟨r, ds, ah, q, x, rv, hh, h, hq, hx⟩ => ?_⟩
  refine LamX.run_ofS lk hcd S hr.room e0 hb rv0 (by rw [rv.length]; exact len _ _ _ _ h) fun hr' => ?_
  refine ⟨_, hbody cdv A outer s H E ⟨hr', hr.gd⟩ _ (takes_of rfl rfl rfl rfl), r, startD N.length ds, ah, _, _, ?_, hh, hsp ds ah q x h, ⟨fun env1 ah1 h1 r1 H1 s1 k1 hh1 he1 => hq _ _ h1 r1 H1 _ k1 hh1 rfl, hq, fun _ _ z => z.elim, fun _ _ z => z.elim⟩, fun C fs env1 ah1 h1 r1 H1 s1 dx k1 hh1 he1 xr => hx C fs ah1 h1 r1 H1 dx k1 hh1 xr⟩
  unfold startD L2.start
  rw [rv.length]
  exact ERep.start _ rv
theorem DFn.mono {j : Nat} (F : DFn P wd K mg base j f fd ps sp) (h : j ≤ k) : DFn P wd K mg base k f fd ps sp := FnG.mono F h
def wCall (sp : DSp) (dd : List D) (w : WA) : WE := fun env ah q x => w env ah (fun ds ah1 => sp (ds ++ dd) ah1 q x) x
theorem run_fnW {sp : Sp} {W : WX} {pins : List (Addr × Obj)} {σ : L2.St} {H : Hp} {s : Shared} {Q : VK} {us ds : List Value} {vs dvs : List V} (F : FnG X.prog X.w X.K X.mg X.base k f fd ps sp) (hr : RoomG k X.A) (hb : Binds X.K fd ps ds) (hd : Vals dvs ds) (tk : Takes X W)
    (I : Inv X pins σ H s) (r : Vals vs us) (h : sp (vs ++ dvs) H Q (fun c d H' => W c d σ H')) : wpAny (model X.prog X.w) X.A (call (.ref f) us) (EP X pins σ Q) X.xe s := by
  have r2 : Vals (vs ++ dvs) (us ++ ds) := r.append hd
  have hl : (us ++ ds).length = ps.length := r2.length ▸ F.len _ _ _ _ h
  refine wpAny_call (codeAny_mono (F.run X.A X.stack s H ⟨us, []⟩ (us ++ ds) (vs ++ dvs) Q _ hr I.env0 (hb s us I.kIn hl) r2 h) fun r s' hq => ?_)
  rcases r with e | fl
  · exact tk e s' (XE.of_call I (fun _ _ _ h => h) hq)
  · cases fl <;> first | exact hq.elim | exact I.after hq
theorem pe_callW {sp : Sp} {W : WX} {x : Str} {p : Pos} {ds : List Value} {dvs : List V} {t : TA} (F : FnG X.prog X.w X.K X.mg X.base k f fd ps sp) (hr : RoomG k X.A) (hg : Gl X x) (hm : X.mg x = some (.ref f)) (hk : PySem.W.keepIn X.K (.ref f) = true) (hb : Binds X.K fd ps ds) (hd : Vals dvs ds) (tk : Takes X W)
    (ha : PA X (e :: es) t) (hdb : (x == ("__debug__" : Str)) = false := by decide) (he : starEach (e :: es) X.env = (false, eval e X.env) :: starEach es X.env := by rfl) (hpl : (backTo pos (starEach es X.env)).any (·.1) = false := by rfl) :
    PE X (.Call (.Name x p) (e :: es) [] pos) (fun σ H Q => t σ H fun vs H1 => sp (vs ++ dvs) H1 Q (fun c d H' => W c d σ H')) :=
  ⟨fun pins s σ H Q I h => wpAny_Call_Name_kw (ld_glob I hg hm (PySem.W.callWith_K (h₀ := X.base) I.ok.mod.kin hk (thn (ha.run pos pins s σ H _ I h) fun us s1 ⟨vs, H1, I1, r, q⟩ => ⟨I1.kIn, run_fnW F hr hb hd tk I1 r q⟩) he hpl) hdb)⟩
theorem pe_callW0 {sp : Sp} {W : WX} {x : Str} {p : Pos} {ds : List Value} {dvs : List V} (F : FnG X.prog X.w X.K X.mg X.base k f fd ps sp) (hr : RoomG k X.A) (hg : Gl X x) (hm : X.mg x = some (.ref f)) (hk : PySem.W.keepIn X.K (.ref f) = true) (hb : Binds X.K fd ps ds) (hd : Vals dvs ds) (tk : Takes X W)
    (hdb : (x == ("__debug__" : Str)) = false := by decide) : PE X (.Call (.Name x p) [] [] pos) (fun σ H Q => sp dvs H Q (fun c d H' => W c d σ H')) :=
  ⟨fun pins s σ H Q I h => wpAny_Call_Name_kw (ld_glob I hg hm (PySem.W.callWith_K0 I.kIn hk (run_fnW (us := []) (vs := []) F hr hb hd tk I .nil h)) hdb)⟩
theorem de_call {x : Str} {p : Pos} {ds : List Value} {dvs : List V} {dd : List D} (F : DFn X.prog X.w X.K X.mg X.base k f fd ps sp) (hr : RoomG k X.A) (hg : Gl X x) (hm : X.mg x = some (.ref f)) (hk : PySem.W.keepIn X.K (.ref f) = true) (hb : Binds X.K fd ps ds) (hd : Vals dvs ds) (hdd : ∀ r H, Reps X.K r H dd dvs)
    (ha : DA X (e :: es) ws) (hdb : (x == ("__debug__" : Str)) = false := by decide) (he : starEach (e :: es) X.env = (false, eval e X.env) :: starEach es X.env := by rfl) (hpl : (backTo pos (starEach es X.env)).any (·.1) = false := by rfl) :
    DE X (.Call (.Name x p) (e :: es) [] pos) (wCall sp dd ws) := fun W tk =>
  (pe_callW F hr hg hm hk hb hd tk (ha W tk) hdb he hpl).weak fun s H Q ⟨r, env, ah, q, x, he, hh, hw, hq, hx⟩ =>
    ⟨r, env, ah, _, x, he, hh, hw, fun ds ah1 h1 r1 H1 vs k1 hh1 p1 => ⟨r1, _, ah1, q, x, p1.append (hdd r1 H1), hh1, h1, hq.step k1, hx.step k1⟩, hx⟩
theorem de_call0 {x : Str} {p : Pos} {ds : List Value} {dvs : List V} {dd : List D} (F : DFn X.prog X.w X.K X.mg X.base k f fd ps sp) (hr : RoomG k X.A) (hg : Gl X x) (hm : X.mg x = some (.ref f)) (hk : PySem.W.keepIn X.K (.ref f) = true) (hb : Binds X.K fd ps ds) (hd : Vals dvs ds) (hdd : ∀ r H, Reps X.K r H dd dvs)
    (hdb : (x == ("__debug__" : Str)) = false := by decide) : DE X (.Call (.Name x p) [] [] pos) (wCall sp dd wNil) := fun W tk =>
  (pe_callW0 F hr hg hm hk hb hd tk hdb).weak fun s H Q ⟨r, env, ah, q, x, he, hh, hw, hq, hx⟩ => ⟨r, _, ah, q, x, hdd r H, hh, hw, hq, hx⟩
end
end Z
namespace Z
open PySem PySem.Spec PyProof.Rows L2 LamX
/-- what is tracked at a law's call: the script, frozen, and the tables -/
structure Init (K : PySem.W.Frag) (cs : List (Addr × Addr)) (a : Addr) (vs : List Value) (xs : List V) (H : Hp) : Prop where
  dom : ∀ b u, H b = some u → (b = a ∧ K.lookup a = none ∧ u = .frz { cls := .type "list", data := .seq vs.toArray } (.lst xs)) ∨ (b ∈ cs.map (·.2) ∧ u = .tbl #[])
  tab : ∀ p ∈ cs, H p.2 = some (.tbl #[])
  scr : SqF K H a xs
section
variable {P : Program} {w : World} {K : PySem.W.Frag} {mg mb : Str → Option Value} {k : Nat} {fa a : Addr} {cs : List (Addr × Addr)} {fd : FuncData} {x : Str} {sp : DSp} {s : Shared} {vs : List Value} {ns : List Int} {H : Hp}
theorem init_ex (KX : K.In s.heap) (hT : ∀ p ∈ cs, s.heap.get? p.2 = some { cls := .none, data := .fields #[] }) (ha : s.heap.get? a = some { cls := .type "list", data := .seq vs.toArray }) (hi : IntsAre vs ns) (hl : ns.length ≤ sizeLine) :
    ∃ H : Hp, Init K cs a vs (ns.map V.int) H := by
  have aT : a ∉ cs.map (·.2) := fun z => by
    obtain ⟨p, hp, e⟩ := List.mem_map.mp z
    have q := hT p hp
    rw [e, ha] at q
    cases q
  have pa : ∀ p ∈ cs, p.2 ≠ a := fun p hp z => aT (z ▸ List.mem_map.mpr ⟨p, hp, rfl⟩)
  have pm : ∀ p ∈ cs, p.2 ∈ cs.map (·.2) := fun p hp => List.mem_map.mpr ⟨p, hp, rfl⟩
  cases hk : K.lookup a with
  | some o =>
    have e := KX a o hk
    rw [ha] at e
    cases e
    refine ⟨fun b => if b ∈ cs.map (·.2) then some (.tbl #[]) else none, fun b u e => ?_, fun p hp => if_pos (pm p hp), .inr ⟨_, vs.toArray, _, hk, rfl, rfl, rfl, by rw [List.size_toArray, hi.length]; exact hl, by simpa using vals_ints hi⟩⟩
    split at e
    · cases e; exact .inr ⟨by assumption, rfl⟩
    · cases e
  | none =>
    refine ⟨fun b => if b = a then some (.frz { cls := .type "list", data := .seq vs.toArray } (.lst (ns.map V.int))) else if b ∈ cs.map (·.2) then some (.tbl #[]) else none, fun b u e => ?_, fun p hp => by rw [if_neg (pa p hp), if_pos (pm p hp)], .inl ⟨_, if_pos rfl⟩⟩
    split at e
    · cases e; exact .inl ⟨by assumption, hk, rfl⟩
    · split at e
      · cases e; exact .inr ⟨by assumption, rfl⟩
      · cases e
/-- who is tracked is a list or an empty row of fields -/
theorem Init.none_ (I : Init K cs a vs (ns.map V.int) H) (hT : ∀ p ∈ cs, s.heap.get? p.2 = some { cls := .none, data := .fields #[] }) (ha : s.heap.get? a = some { cls := .type "list", data := .seq vs.toArray }) {b : Addr} {o : Obj} (e : s.heap.get? b = some o)
    (n1 : ∀ vs n, o.data ≠ .seq vs n) (n2 : o.data ≠ .fields #[]) : H b = none := by
  cases q : H b with
  | none => rfl
  | some u =>
    rcases I.dom b u q with ⟨rfl, _⟩ | ⟨z, _⟩
    · rw [ha] at e; cases e; exact (n1 _ _ rfl).elim
    · obtain ⟨p, hp, rfl⟩ := List.mem_map.mp z
      rw [hT p hp] at e; cases e; exact (n2 rfl).elim
theorem law_callG (KX : K.In s.heap) (hns : s.heap.Ns mainGlobals mg) (hb : s.heap.Ns builtinsNs mb) (hbb : ∀ x : Str, x ≠ "__name__" → mb x = bootBuiltins x) (hlim : s.heap.NoLimit) (hg : s.gens = #[])
    (hC : ∀ b ∈ tabsOf K, b ∈ cs.map (·.2)) (hT : ∀ p ∈ cs, s.heap.get? p.2 = some { cls := .none, data := .fields #[] }) (nT : ∀ p ∈ cs, K.lookup p.2 = none) (C : ∀ p ∈ cs, PySem.W.CodeHd s.heap p.1 p.2)
    (hbm : ∃ (bm : Addr) (ob : Obj), mg "__builtins__" = some (.ref bm) ∧ bm ≠ builtinsNs ∧ s.heap.get? bm = some ob ∧ ob.cls = .type "module" ∧ ob.dict = some builtinsNs ∧ ob.data = .plain)
    (ha : s.heap.get? a = some { cls := .type "list", data := .seq vs.toArray }) (hi : IntsAre vs ns) (hl : ns.length ≤ sizeLine) (hr : Room k callerA)
    (F : ∀ base : Heap, K.In base → base.Ns mainGlobals mg → (∀ p ∈ cs, TabB base mg p.1 p.2) → DFn P w K mg base k fa fd [x] sp) (hbind : ∀ (s : Shared) (u : Value), BindsTo s fd ⟨[u], []⟩ [(x, u)])
    (hsp : sp [.frl (ns.map D.int)] [] (fun d _ => d = .bl true) fun _ _ => False) :
    codeAny (model P w) callerA (.call (.ref fa) ⟨[.ref a], []⟩) (fun r s' => r = .ok (.ret (.bool true)) ∧ OldK s.heap s'.heap ∧ s'.os = s.os ∧ AllBare s'.gens) s := by
  obtain ⟨H, I⟩ := init_ex (cs := cs) KX hT ha hi hl
  have hok : HOk P w H s.heap := fun b u e => by
    rcases I.dom b u e with ⟨e1, _, e2⟩ | ⟨z, e2⟩
    · subst e1; subst e2
      exact ⟨ha, by rw [List.length_map]; exact hl, vs, _, vals_ints hi, ha⟩
    · subst e2
      obtain ⟨p, hp, rfl⟩ := List.mem_map.mp z
      exact hT p hp
  have there : ∀ {b : Addr} {o : Obj}, s.heap.get? b = some o → (∀ vs n, o.data ≠ .seq vs n) → o.data ≠ .fields #[] → (hidT s.heap H).get? b = some o := fun e n1 n2 => hidT_get e (I.none_ hT ha e n1 n2)
  have nsK : ∀ {b : Addr} {m : Str → Option Value}, s.heap.Ns b m → (hidT s.heap H).Ns b m := fun ⟨o, es, ep, e, d, r⟩ => ⟨o, es, ep, there e (fun _ _ z => by rw [d] at z; cases z) (fun z => by rw [d] at z; cases z), d, r⟩
  have hKb : K.In (hidT s.heap H) := fun b o e => hidT_get (KX b o e) (by
    cases q : H b with
    | none => rfl
    | some u =>
      rcases I.dom b u q with ⟨e1, e2, _⟩ | ⟨z, _⟩
      · rw [e1, e2] at e; cases e
      · obtain ⟨p, hp, rfl⟩ := List.mem_map.mp z
        rw [nT p hp] at e; cases e)
  have TB : ∀ p ∈ cs, TabB (hidT s.heap H) mg p.1 p.2 := fun p hp => by
    have hTp := hT p hp
    refine ⟨?_, ?_, fun z => ?_⟩
    · obtain ⟨o, us, file, tf, flags, tg, inF, text, tt, e1, r1, r2, rest⟩ := C p hp
      refine ⟨o, us, file, tf, flags, tg, inF, text, tt, there e1 (fun _ _ z => by rw [r2] at z; cases z) (fun z => ?_), r1, r2, rest⟩
      rw [r2] at z
      cases z
      have r3 := rest.1
      simp at r3
    · obtain ⟨bm, ob, b1, b2, b3, b4, b5, b6⟩ := hbm
      refine ⟨bm, ob, b1, b2, fun q => ?_, fun q => ?_, there b3 (fun _ _ z => by rw [b6] at z; cases z) (fun z => by rw [b6] at z; cases z), b4, b5, b6⟩
      · obtain ⟨o, es, ep, e, hd, _⟩ := hns
        rw [q, e] at b3
        cases b3
        rw [hd] at b6
        cases b6
      · rw [q, hTp] at b3
        cases b3
        cases b6
    · obtain ⟨o, es, ep, e, hd, _⟩ := hns
      rw [z, hTp] at e
      cases e
      cases hd
  have e0 : Env0 P w K mg (hidT s.heap H) callerA [] s H :=
    ⟨rfl, ⟨hKb, nsK hns, ⟨mb, nsK hb, hbb⟩, let ⟨mc, h1, h2⟩ := hlim; ⟨mc, nsK h1, h2⟩⟩, fun b o e => of_hidT e, Nat.le_of_eq (hidT_size _ _), trivial, fun b hb => absurd (show b ∈ ([] : List Addr) from hb) (by simp), hok, .of_eq hg⟩
  have ri : ∀ l : List Int, Reps K [] H (l.map D.int) (l.map V.int) := fun l => by
    induction l with
    | nil => rfl
    | cons i l ih => exact ⟨_, _, rfl, rfl, ih⟩
  have hS : LSp K sp [.ref a] H (fun v _ => v = .bl true) fun _ _ _ => False :=
    ⟨[], [.frl (ns.map D.int)], [], _, _, ⟨_, _, rfl, ⟨a, _, rfl, I.scr, ri ns⟩, rfl⟩, ⟨rfl, List.nodup_nil, fun n a o e => by simp at e, fun b ps e => by
      rcases I.dom b _ e with ⟨_, _, z⟩ | ⟨_, z⟩
      · cases z
      · cases z
        exact ⟨#[], e, True.intro, fun pos cv hc => by
          have z : codeAmong pos [] = some cv := hc
          simp [codeAmong] at z⟩, fun b hb => by
      obtain ⟨p, hp, rfl⟩ := List.mem_map.mp (hC b hb)
      exact ⟨_, I.tab p hp⟩⟩, hsp, fun d ah e r H' v k hh p => by subst e; exact p, fun _ _ _ z => z.elim⟩
  refine codeAny_mono ((F _ hKb (nsK hns) TB).run callerA [] s H ⟨[.ref a], []⟩ [.ref a] [.ref a] _ _ ⟨hr, rfl⟩ e0 (hbind s (.ref a)) (.cons rfl .nil) hS) fun r s' h => ?_
  rcases r with e | fl
  · obtain ⟨_, _, _, _, _, _, _, _, _, _, _, _, _, _, _, _, z⟩ := h
  · cases fl with
    | next => exact False.elim h
    | brk => exact False.elim h
    | cont => exact False.elim h
    | ret u =>
      obtain ⟨v, H', os, bare, un, hok', r', q⟩ := h
      obtain rfl : v = .bl true := q
      obtain rfl : u = Value.bool true := r'
      have same : ∀ b o, b ∉ cs.map (·.2) → s.heap.get? b = some o → s'.heap.get? b = some o := fun b o nb e => by
        cases q : H b with
        | none => exact un.keep b o e q (fun z => absurd (show b ∈ ([] : List Addr) from z) (by simp)) (by simp)
        | some u =>
          rcases I.dom b u q with ⟨_, _, rfl⟩ | ⟨z, _⟩
          · have e1 := (hok b _ q).1
            rw [e] at e1; cases e1
            exact (hok' b _ (un.frzs b _ _ q)).1
          · exact absurd z nb
      have grown : ∀ p ∈ cs, ∃ more : Array Value, s'.heap.get? p.2 = some { cls := .none, data := .fields more } := fun p hp => by
        obtain ⟨more, z⟩ := un.tbls p.2 #[] (I.tab p hp)
        exact ⟨_, hok' p.2 _ z⟩
      refine ⟨rfl, ⟨fun b o e => ?_, fun b o e => ?_⟩, os, bare⟩
      · by_cases hb : b ∈ cs.map (·.2)
        · obtain ⟨p, hp, rfl⟩ := List.mem_map.mp hb
          obtain ⟨more, hm⟩ := grown p hp
          rw [hT p hp] at e
          cases e
          exact .inr (.inl ⟨((C p hp).tab (hT p hp)).isCodeTable, rfl, #[], more, rfl, by rw [Array.empty_append]; exact hm⟩)
        · exact .inl (same b o hb e)
      · by_cases hb : b ∈ cs.map (·.2)
        · obtain ⟨p, hp, rfl⟩ := List.mem_map.mp hb
          obtain ⟨more, hm⟩ := grown p hp
          exact ⟨_, hm⟩
        · exact ⟨o, same b o hb e⟩
end
/-- the walk of a law from the promise of its def -/
theorem walk_G {l : PySem.W.OpenLaw} {n k : Nat} {q : Program} {loose : List Str} {XP : (Str → Option Value) → Heap → Prop} {YP : World → Heap → Prop} {d : DefRec} {x : Str} {sp : DSp}
    (hn : l.most = some n) (hn2 : n ≤ sizeLine) (hdf : d.params.defaults = []) (hr : Room k callerA)
    (hsp : ∀ ns : List Int, ns.length ≤ n → (∀ z ∈ ns, Builtin.Int.intBits z ≤ 1048576) → sp [.frl (ns.map D.int)] [] (fun d _ => d = .bl true) fun _ _ => False)
    (F : ∀ (w : World) (mg : Str → Option Value) (fa : Addr) (h : Heap), YP w h → h.Ns mainGlobals mg → mg d.name = some (.ref fa) →
      ∃ (K : PySem.W.Frag) (fd : FuncData) (cs : List (Addr × Addr)), K.In h ∧ (∀ b ∈ tabsOf K, b ∈ cs.map (·.2)) ∧ (∀ p ∈ cs, h.get? p.2 = some { cls := .none, data := .fields #[] }) ∧ (∀ p ∈ cs, K.lookup p.2 = none) ∧ (∀ p ∈ cs, PySem.W.CodeHd h p.1 p.2) ∧ (∀ (s : Shared) (u : Value), BindsTo s fd ⟨[u], []⟩ [(x, u)]) ∧
        ∀ base : Heap, K.In base → base.Ns mainGlobals mg → (∀ p ∈ cs, TabB base mg p.1 p.2) → DFn l.prog w K mg base k fa fd [x] sp) :
    PySem.W.WalkO q loose XP YP l.row.toRowW d [] (fun f vs => PySem.call f vs) := by
  refine Att.attach_callB hn hdf fun w s₀ s₁ mg mb fa o pm cd doc a vs ns G Y ho hd hcd hmg hobj hints hlen hbits hg => ?_
  obtain ⟨K, fd, cs, KX, hC, hT, nT, C, hb, hF⟩ := F w mg fa _ Y G.T.g hmg
  exact law_callG KX G.T.g G.T.b G.T.builtins G.T.nolimit hg hC hT nT C G.T.bmain hobj hints (Nat.le_trans hlen hn2) hr hF hb (hsp ns hlen hbits)
end Z
namespace Z
open PySem PySem.Spec PyProof.Rows L2
/-! ### whatever may be called by position -/
/-- a def's promise, its arguments by position -/
def FnC (P : Program) (wd : World) (K : PySem.W.Frag) (mg : Str → Option Value) (base : Heap) (k : Nat) (f : Addr) (sp : Sp) : Prop :=
  ∀ (A : Around) (outer : List Env) (s : Shared) (H : Hp) (us : List Value) (vs : List V) (Q : VK) (E : XK), RoomG k A → Env0 P wd K mg base A outer s H → Vals vs us → sp vs H Q E → codeAny (model P wd) A (.call (.ref f) ⟨us, []⟩) (CR (L2.CX P wd) outer P wd H s Q E) s
section
variable {P : Program} {wd : World} {K : PySem.W.Frag} {mg : Str → Option Value} {base : Heap} {j k : Nat} {f : Addr} {fd : FuncData} {ps N : List Str} {sp : Sp}
theorem FnC.mono (F : FnC P wd K mg base j f sp) (h : j ≤ k) : FnC P wd K mg base k f sp := fun A outer s H us vs Q E hr => F A outer s H us vs Q E (hr.mono h)
theorem fnc_of (F : FnG P wd K mg base k f fd ps sp) (hb : Binds K fd ps []) : FnC P wd K mg base k f sp := fun A outer s H us vs Q E hr e0 r h => by
  have kin : K.In s.heap := e0.mod.kin.keeps fun b o e => (e0.bs b o e).1
  have b := hb s us kin (by rw [List.append_nil, ← r.length]; exact F.len _ _ _ _ h)
  rw [List.append_nil] at b
  exact F.run A outer s H ⟨us, []⟩ us vs Q E hr e0 b r h
end
/-- a call of f, here -/
def Runs (X : Cx) (f : Addr) (sp : Sp) : Prop := ∀ (W : WX) (pins : List (Addr × Obj)) (σ : L2.St) (H : Hp) (s : Shared) (Q : VK) (us : List Value) (vs : List V), Takes X W → Inv X pins σ H s → Vals vs us → sp vs H Q (fun c d H' => W c d σ H') →
  codeAny (model X.prog X.w) X.A (.call (.ref f) ⟨us, []⟩) (fun r s' => match r with | .ok (.ret v) => EP X pins σ Q v s' | .ok _ => False | .error e => X.xe e s') s
abbrev DRun (X : Cx) (f : Addr) (sp : DSp) : Prop := Runs X f (LSp X.K sp)
theorem RoomG.make {k : Nat} {A : Around} (r : RoomG (k + 1) A) (C : Addr) (us : List Value) (kw : List (Str × Value)) : RoomG k (A.under (.builtin "type.__call__" ⟨.ref C :: us, kw⟩)) := ⟨r.room.make C us kw, r.gd⟩
def mkSp (C : Str) (sp : DSp) : DSp := fun ds ah q x => sp (.ref ah.length :: ds) (ah ++ [.ins C []]) (fun d ah2 => d = .non ∧ q (.ref ah.length) ah2) x
section
variable {X : Cx} {k j : Nat} {f C : Addr} {sp : Sp} {W : WX}
theorem runs_fn (F : FnC X.prog X.w X.K X.mg X.base k f sp) (hr : RoomG j X.A) (hj : k ≤ j) : Runs X f sp := fun W pins σ H s Q us vs tk I r h => by
  refine codeAny_mono (F X.A X.stack s H us vs Q _ (hr.mono hj) I.env0 r h) fun r s' hq => ?_
  rcases r with e | fl
  · exact tk e s' (XE.of_call I (fun _ _ _ z => z) hq)
  · cases fl <;> first | exact hq.elim | exact I.after hq
theorem runs_make (M : Mk X.K C f) (F : FnC X.prog X.w X.K X.mg X.base k f sp) (hr : RoomG j X.A) (hj : k + 1 ≤ j) :
    Runs X C (fun vs H Q E => ∀ x dx, H x = none → H dx = none → dx ≠ x → sp (.ref x :: vs) (upd (upd H dx (.own x)) x (.ins C dx [])) (fun v H2 => v = .non ∧ Q (.ref x) H2) E) := fun W pins σ H s Q us vs tk I r h => by
  have I2 := Inv.made (C := C) I
  have r2 : Vals (V.ref (s.heap.objs.size + 1) :: vs) (Value.ref (s.heap.objs.size + 1) :: us) := .cons rfl r
  have h2 := h (s.heap.objs.size + 1) s.heap.objs.size (I.hok.fresh (Nat.le_succ _)) (I.hok.fresh (Nat.le_refl _)) (Nat.ne_of_lt (Nat.lt_succ_self _))
  refine make_map (f := f) I.kIn M.makes M.init (beq_iff_eq.mp M.fn) (codeAny_mono (F _ X.stack _ _ _ _ _ _ ((hr.mono hj).make C us []) (I2.env0.make C us []) r2 h2) fun r s' hq => ?_)
  rcases r with e | fl
  · exact tk e s' (XE.of_call I2 (fun _ _ _ z => z) hq)
  · cases fl with
    | ret u =>
      obtain ⟨v, H', I3, rv, ev, q3⟩ := I2.after hq
      subst ev
      exact ⟨rv, V.ref (s.heap.objs.size + 1), H', I3, rfl, q3⟩
    | _ => exact hq.elim
theorem drun_make {C : Str} {sp : DSp} (M : Mk X.K (He.ga X.K C) f) (F : FnC X.prog X.w X.K X.mg X.base k f (LSp X.K sp)) (hr : RoomG j X.A) (hj : k + 1 ≤ j) : DRun X (He.ga X.K C) (mkSp C sp) :=
  fun W pins σ H s Q us vs tk I rv ⟨r, ds, ah, q, x, rp, hh, h, hq, hx⟩ => runs_make M F hr hj W pins σ H s Q us vs tk I rv fun y dx hy hd ne => by
    have hy' : upd H dx (.own y) y = none := by rw [upd_ne (Ne.symm ne)]; exact hy
    have kp : Kp X.K r H (r ++ [y]) (upd (upd H dx (.own y)) y (.ins (He.ga X.K C) dx [])) := (Kp.new_ hd).trans (Kp.push hy')
    have at_ : (r ++ [y])[ah.length]? = some y := by rw [← hh.len]; simp
    have h' : sp (.ref ah.length :: ds) (ah ++ [.ins C []]) (fun d ah2 => d = .non ∧ q (.ref ah.length) ah2) x := h
    have hr2 : HRep X.K (r ++ [y]) (upd (upd H dx (.own y)) y (.ins (He.ga X.K C) dx [])) (ah ++ [.ins C []]) := (hh.new_ hd).push (o := .ins C []) hy' ⟨dx, [], upd_same, fun z => (List.mem_append.mp z).elim (hh.fresh hd) fun z => ne (List.mem_singleton.mp z), by rw [upd_ne ne]; exact upd_same, rfl⟩
    refine ⟨r ++ [y], .ref ah.length :: ds, ah ++ [.ins C []], fun d ah2 => d = .non ∧ q (.ref ah.length) ah2, x, ⟨.ref y, vs, rfl, ⟨y, at_, rfl⟩, rp.mono kp⟩, hr2, h', ?_, hx.step kp⟩
    · rintro d ah2 ⟨rfl, h2⟩ r2 H2 v k2 hh2 p2
      exact ⟨p2, hq _ _ h2 r2 H2 _ (kp.trans k2) hh2 ⟨y, k2.pre _ _ at_, rfl⟩⟩
end
theorem RepF.look {K : PySem.W.Frag} {r : List Addr} {H : Hp} {m : Str} {d : D} : ∀ {l : List (Str × D)} {vs : List (Str × V)}, RepF K r H l vs → l.lookup m = some d → ∃ v, vs.lookup m = some v ∧ Rep K r H d v
  | [], _, h, e => by simp at e
  | (k, d') :: l, _, ⟨v, vr, e1, p, q⟩, e => by
    subst e1
    rw [List.lookup_cons] at e ⊢
    cases hm : m == k with
    | true => rw [hm] at e; cases e; exact ⟨v, rfl, p⟩
    | false => rw [hm] at e; exact RepF.look q e
theorem RepF.look_none {K : PySem.W.Frag} {r : List Addr} {H : Hp} {m : Str} : ∀ {l : List (Str × D)} {vs : List (Str × V)}, RepF K r H l vs → l.lookup m = none → vs.lookup m = none
  | [], _, h, e => by cases h; rfl
  | (k, d') :: l, _, ⟨v, vr, e1, p, q⟩, e => by
    subst e1
    rw [List.lookup_cons] at e ⊢
    cases hm : m == k with
    | true => rw [hm] at e; cases e
    | false => rw [hm] at e; exact RepF.look_none q e
/-! ### calls -/
section
variable {X : Cx} {k j : Nat} {f C : Addr} {sp : Sp} {W : WX} {x m : Str} {p apos pos : Pos} {e o fe : Expr} {es : List Expr} {t : TA} {ta tf te : TE}
abbrev tRun (sp : Sp) (W : WX) (t : TA) : TE := fun σ H Q => t σ H fun vs H1 => sp vs H1 Q (fun c d H' => W c d σ H')
theorem pe_run (R : Runs X f sp) (hg : Gl X x) (hm : X.mg x = some (.ref f)) (hk : PySem.W.keepIn X.K (.ref f) = true) (tk : Takes X W) (ha : PA X (e :: es) t) (hdb : (x == ("__debug__" : Str)) = false) (he : starEach (e :: es) X.env = (false, eval e X.env) :: starEach es X.env) (hpl : (backTo pos (starEach es X.env)).any (·.1) = false) :
    PE X (.Call (.Name x p) (e :: es) [] pos) (tRun sp W t) :=
  ⟨fun pins s σ H Q I h => wpAny_Call_Name_kw (ld_glob I hg hm (PySem.W.callWith_K (h₀ := X.base) I.ok.mod.kin hk (thn (ha.run pos pins s σ H _ I h) fun us s1 ⟨vs, H1, I1, r, q⟩ => ⟨I1.kIn, wpAny_call (R W pins σ H1 s1 Q us vs tk I1 r q)⟩) he hpl) hdb)⟩
theorem pe_run0 (R : Runs X f sp) (hg : Gl X x) (hm : X.mg x = some (.ref f)) (hk : PySem.W.keepIn X.K (.ref f) = true) (tk : Takes X W) (hdb : (x == ("__debug__" : Str)) = false) : PE X (.Call (.Name x p) [] [] pos) (tRun sp W tNil) :=
  ⟨fun pins s σ H Q I h => wpAny_Call_Name_kw (ld_glob I hg hm (PySem.W.callWith_K0 I.kIn hk (wpAny_call (R W pins σ H s Q [] [] tk I .nil h))) hdb)⟩
theorem pe_runS (R : Runs X f sp) (hg : Gl X x) (hm : X.mg x = some (.ref f)) (hk : PySem.W.keepIn X.K (.ref f) = true) (tk : Takes X W) (ha : PA X (e :: es) t) (hdb : (x == ("__debug__" : Str)) = false) (he : starEach (e :: es) X.env = (false, eval e X.env) :: starEach es X.env) (hst : (backTo pos (starEach es X.env)).any (·.1) = true) :
    PE X (.Call (.Name x p) (e :: es) [] pos) (tRun sp W t) :=
  ⟨fun pins s σ H Q I h => wpAny_Call_Name_kw (ld_glob I hg hm (PySem.W.callWith_S2 (h₀ := X.base) I.ok.mod.kin hk (thn (ha.run pos pins s σ H _ I h) fun us s1 ⟨vs, H1, I1, r, q⟩ => ⟨I1.kIn, wpAny_call (R W pins σ H1 s1 Q us vs tk I1 r q)⟩) he hst) hdb)⟩
/-- the callee is an expression that gives f -/
theorem pe_runL (hf : PE X fe tf) (R : Runs X f sp) (hk : PySem.W.keepIn X.K (.ref f) = true) (tk : Takes X W) (ha : PA X (e :: es) t) (ht : eval (.Call fe (e :: es) [] pos) X.env = (do callWith pos (← eval fe X.env) [] (backTo pos (starEach (e :: es) X.env)) (backToKw pos (keywordEach [] X.env))))
    (he : starEach (e :: es) X.env = (false, eval e X.env) :: starEach es X.env) (hst : (backTo pos (starEach es X.env)).any (·.1) = true) : PE X (.Call fe (e :: es) [] pos) (fun σ H Q => tf σ H fun y H1 => y = .ref f ∧ tRun sp W t σ H1 Q) :=
  ⟨fun pins s σ H Q I h => Call_ (thn (hf.run pins s σ H _ I h) fun u s1 ⟨y, H1, I1, ry, ey, q⟩ => by
    subst ey
    obtain rfl : u = Value.ref f := ry
    exact PySem.W.callWith_S2 (h₀ := X.base) I.ok.mod.kin hk (thn (ha.run pos pins s1 σ H1 _ I1 q) fun us s2 ⟨vs, H2, I2, r, q2⟩ => ⟨I2.kIn, wpAny_call (R W pins σ H2 s2 Q us vs tk I2 r q2)⟩) he hst) ht⟩
/-- o.m(..) of an instance -/
theorem pe_runM {pl : Sem Bool} (he : PE X o ta) (c : Cls X.K C) (hm : Meth X.K C m f) (R : Runs X f sp) (tk : Takes X W) (ha : PA X (e :: es) t) (hst : starEach (e :: es) X.env = (false, eval e X.env) :: starEach es X.env) (hpl : (backTo pos (starEach es X.env)).any (·.1) = false)
    (ht : eval (.Call (.Attribute o m apos) (e :: es) [] pos) X.env = (eval o X.env >>= fun ov => standAt apos.atName >>= fun _ => holding [ov] (getMethod ov m pl) >>= fun z => callWith pos z.1 z.2 (backTo pos (starEach (e :: es) X.env)) (backToKw pos (keywordEach [] X.env)))) :
    PE X (.Call (.Attribute o m apos) (e :: es) [] pos) (fun σ H Q => ta σ H fun x H1 => ∃ a dx fs, x = .ref a ∧ H1 a = some (.ins C dx fs) ∧ fs.lookup m = none ∧ t σ H1 fun vs H2 => sp (x :: vs) H2 Q (fun c d H' => W c d σ H')) :=
  ⟨fun pins s σ H Q I h => PySem.W.methodCall_KW (pl := pl) (thn (he.run pins s σ H _ I h) fun u s1 ⟨x, H1, I1, rx, a, dx, fs, ex, ea, l, q⟩ => by
    subst ex
    obtain rfl : u = Value.ref a := rx
    exact getmeth_ok I1 ea c hm l (PySem.W.callWith_K (first := [.ref a]) (h₀ := X.base) I.ok.mod.kin hm.kp (thn (ha.run pos pins s1 σ H1 _ I1 q) fun us s2 ⟨vs, H2, I2, r, q2⟩ => ⟨I2.kIn, wpAny_call (R W pins σ H2 s2 Q (.ref a :: us) (.ref a :: vs) tk I2 (.cons rfl r) q2)⟩) hst hpl)) ht⟩
theorem pe_runM0 {pl : Sem Bool} (he : PE X o ta) (c : Cls X.K C) (hm : Meth X.K C m f) (R : Runs X f sp) (tk : Takes X W)
    (ht : eval (.Call (.Attribute o m apos) [] [] pos) X.env = (eval o X.env >>= fun ov => standAt apos.atName >>= fun _ => holding [ov] (getMethod ov m pl) >>= fun z => callWith pos z.1 z.2 (backTo pos (starEach [] X.env)) (backToKw pos (keywordEach [] X.env)))) :
    PE X (.Call (.Attribute o m apos) [] [] pos) (fun σ H Q => ta σ H fun x H1 => ∃ a dx fs, x = .ref a ∧ H1 a = some (.ins C dx fs) ∧ fs.lookup m = none ∧ sp [x] H1 Q (fun c d H' => W c d σ H')) :=
  ⟨fun pins s σ H Q I h => PySem.W.methodCall_KW (pl := pl) (thn (he.run pins s σ H _ I h) fun u s1 ⟨x, H1, I1, rx, a, dx, fs, ex, ea, l, q⟩ => by
    subst ex
    obtain rfl : u = Value.ref a := rx
    exact getmeth_ok I1 ea c hm l (PySem.W.callWith_K0 (first := [.ref a]) I1.kIn hm.kp (wpAny_call (R W pins σ H1 s1 Q [.ref a] [.ref a] tk I1 (.cons rfl .nil) q)))) ht⟩
/-- C.m(..), m a classmethod -/
theorem pe_runC {pl : Sem Bool} {q0 : Addr} {mc : Value} (he : PE X o ta) (r : ClX.CRead X.K C mc) (c : ClX.CMet X.K C mc m q0 f) (R : Runs X f sp) (tk : Takes X W) (ha : PA X (e :: es) t) (hst : starEach (e :: es) X.env = (false, eval e X.env) :: starEach es X.env) (hpl : (backTo pos (starEach es X.env)).any (·.1) = false)
    (ht : eval (.Call (.Attribute o m apos) (e :: es) [] pos) X.env = (eval o X.env >>= fun ov => standAt apos.atName >>= fun _ => holding [ov] (getMethod ov m pl) >>= fun z => callWith pos z.1 z.2 (backTo pos (starEach (e :: es) X.env)) (backToKw pos (keywordEach [] X.env)))) :
    PE X (.Call (.Attribute o m apos) (e :: es) [] pos) (fun σ H Q => ta σ H fun x H1 => x = .ref C ∧ t σ H1 fun vs H2 => sp (.ref C :: vs) H2 Q (fun c d H' => W c d σ H')) :=
  ⟨fun pins s σ H Q I h => PySem.W.methodCall_KW (pl := pl) (thn (he.run pins s σ H _ I h) fun u s1 ⟨x, H1, I1, rx, ex, q⟩ => by
    subst ex
    obtain rfl : u = Value.ref C := rx
    exact ClX.getmethcm_ok I1 r c fun s2 I2 => ClX.callwith_cm I2 (ClX.base_none I1 (Nat.le_refl _)) c.fi (thn (ha.run pos _ s2 σ H1 _ I2 q) fun us s3 ⟨vs, H2, I3, rv, q2⟩ => ⟨⟨ClX.pin_at I3, I3.kIn⟩,
      thn (wpAny_call (PySem.W.method_call (ClX.pin_at I3) (R W _ σ H2 s3 Q (.ref C :: us) (.ref C :: vs) tk I3 (.cons rfl rv) q2))) fun _ _ y => ClX.unpinE y⟩) hst hpl) ht⟩
end
/-! ### .. told of data -/
section
variable {X : Cx} {k j : Nat} {f : Addr} {sp : DSp} {x m C : Str} {p apos pos : Pos} {e o fe : Expr} {es : List Expr} {ws : WA} {wo we wf : WE}
theorem LA.run {W : WX} {s : L2.St} {H : Hp} {Q : VK} (h : LE X.K (wCall sp [] ws) W s H Q) : tRun (LSp X.K sp) W (LA X.K ws W) s H Q := by
  obtain ⟨r, env, ah, q, x, he, hh, hw, hq, hx⟩ := h
  refine ⟨r, env, ah, _, x, he, hh, hw, fun ds ah1 h1 r1 H1 vs k1 hh1 p1 => ⟨r1, ds, ah1, q, x, p1, hh1, ?_, hq.step k1, hx.step k1⟩, hx⟩
  have h2 : sp (ds ++ []) ah1 q x := h1
  rw [List.append_nil] at h2
  exact h2
theorem de_run (R : DRun X f sp) (hg : Gl X x) (hm : X.mg x = some (.ref f)) (hk : PySem.W.keepIn X.K (.ref f) = true) (ha : DA X (e :: es) ws) (hdb : (x == ("__debug__" : Str)) = false := by decide) (he : starEach (e :: es) X.env = (false, eval e X.env) :: starEach es X.env := by rfl) (hpl : (backTo pos (starEach es X.env)).any (·.1) = false := by rfl) :
    DE X (.Call (.Name x p) (e :: es) [] pos) (wCall sp [] ws) := fun W tk => (pe_run R hg hm hk tk (ha W tk) hdb he hpl).weak fun s H Q h => LA.run h
theorem de_run0 (R : DRun X f sp) (hg : Gl X x) (hm : X.mg x = some (.ref f)) (hk : PySem.W.keepIn X.K (.ref f) = true) (hdb : (x == ("__debug__" : Str)) = false := by decide) : DE X (.Call (.Name x p) [] [] pos) (wCall sp [] wNil) := fun W tk =>
  (pe_run0 R hg hm hk tk hdb).weak fun s H Q ⟨r, env, ah, q, x, he, hh, hw, hq, hx⟩ => ⟨r, [], ah, q, x, rfl, hh, hw, hq, hx⟩
theorem de_runS (R : DRun X f sp) (hg : Gl X x) (hm : X.mg x = some (.ref f)) (hk : PySem.W.keepIn X.K (.ref f) = true) (ha : DA X (e :: es) ws) (hdb : (x == ("__debug__" : Str)) = false := by decide) (he : starEach (e :: es) X.env = (false, eval e X.env) :: starEach es X.env := by rfl) (hst : (backTo pos (starEach es X.env)).any (·.1) = true := by rfl) :
    DE X (.Call (.Name x p) (e :: es) [] pos) (wCall sp [] ws) := fun W tk => (pe_runS R hg hm hk tk (ha W tk) hdb he hst).weak fun s H Q h => LA.run h
/-- the callee is a class by a name of the body -/
def wCallL (C : Str) (sp : DSp) (wf : WE) (w : WA) : WE := fun env ah q x => wf env ah (fun d ah1 => match d with
  | .glo c => c = C ∧ w env ah1 (fun ds ah2 => sp ds ah2 q x) x
  | _ => False) x
theorem de_runL (hf : DE X fe wf) (R : DRun X (He.ga X.K C) sp) (hk : PySem.W.keepIn X.K (.ref (He.ga X.K C)) = true) (ha : DA X (e :: es) ws) (ht : eval (.Call fe (e :: es) [] pos) X.env = (do callWith pos (← eval fe X.env) [] (backTo pos (starEach (e :: es) X.env)) (backToKw pos (keywordEach [] X.env))) := by rfl)
    (he : starEach (e :: es) X.env = (false, eval e X.env) :: starEach es X.env := by rfl) (hst : (backTo pos (starEach es X.env)).any (·.1) = true := by rfl) : DE X (.Call fe (e :: es) [] pos) (wCallL C sp wf ws) := fun W tk =>
  (pe_runL (hf W tk) R hk tk (ha W tk) ht he hst).weak fun s H Q ⟨r, env, ah, q, x, he, hh, hw, hq, hx⟩ => by
    refine ⟨r, env, ah, _, x, he, hh, hw, fun d ah1 h1 r1 H1 v k1 hh1 p1 => ?_, hx⟩
    try dsimp only at h1
    split at h1
    · obtain ⟨rfl, h1⟩ := h1
      exact ⟨p1, r1, env, ah1, _, x, he.mono k1, hh1, h1, fun ds ah2 h2 r2 H2 vs k2 hh2 p2 => ⟨r2, ds, ah2, q, x, p2, hh2, h2, hq.step (k1.trans k2), hx.step (k1.trans k2)⟩, hx.step k1⟩
    · exact h1.elim
/-- a method of an instance of the class -/
def insOf (C m : Str) (d : D) (ah : AH) (k : Prop) : Prop := match d with
  | .ref n => (match ah[n]? with
    | some (.ins c fs) => c = C ∧ fs.lookup m = none ∧ k
    | _ => False)
  | _ => False
theorem insOf_at {r : List Addr} {H : Hp} {ah : AH} {d : D} {v : V} {kp : Prop} {K : PySem.W.Frag} (hh : HRep K r H ah) (p : Rep K r H d v) (h : insOf C m d ah kp) : (∃ a dx fs, v = .ref a ∧ H a = some (.ins (He.ga K C) dx fs) ∧ fs.lookup m = none) ∧ kp := by
  unfold insOf at h
  split at h
  · obtain ⟨a, e1, rfl⟩ := p
    split at h
    · obtain ⟨rfl, h1, h2⟩ := h
      obtain ⟨dx, vs, f1, _, _, rf⟩ := hh.ob _ _ _ e1 (by assumption)
      exact ⟨⟨a, dx, vs, rfl, f1, rf.look_none h1⟩, h2⟩
    · exact h.elim
  · exact h.elim
def wMeth (C m : Str) (sp : DSp) (wo : WE) (w : WA) : WE := fun env ah q x => wo env ah (fun d ah1 => insOf C m d ah1 (w env ah1 (fun ds ah2 => sp (d :: ds) ah2 q x) x)) x
theorem de_runM {pl : Sem Bool} (ho : DE X o wo) (c : Cls X.K (He.ga X.K C)) (hm : Meth X.K (He.ga X.K C) m f) (R : DRun X f sp) (ha : DA X (e :: es) ws) (hst : starEach (e :: es) X.env = (false, eval e X.env) :: starEach es X.env := by rfl) (hpl : (backTo pos (starEach es X.env)).any (·.1) = false := by rfl)
    (ht : eval (.Call (.Attribute o m apos) (e :: es) [] pos) X.env = (eval o X.env >>= fun ov => standAt apos.atName >>= fun _ => holding [ov] (getMethod ov m pl) >>= fun z => callWith pos z.1 z.2 (backTo pos (starEach (e :: es) X.env)) (backToKw pos (keywordEach [] X.env))) := by rfl) :
    DE X (.Call (.Attribute o m apos) (e :: es) [] pos) (wMeth C m sp wo ws) := fun W tk =>
  (pe_runM (ho W tk) c hm R tk (ha W tk) hst hpl ht).weak fun s H Q ⟨r, env, ah, q, x, he, hh, hw, hq, hx⟩ => by
    refine ⟨r, env, ah, _, x, he, hh, hw, fun d ah1 h1 r1 H1 v k1 hh1 p1 => ?_, hx⟩
    obtain ⟨⟨a, dx, fs, e1, e2, e3⟩, h1⟩ := insOf_at hh1 p1 h1
    exact ⟨a, dx, fs, e1, e2, e3, r1, env, ah1, _, x, he.mono k1, hh1, h1, fun ds ah2 h2 r2 H2 vs k2 hh2 p2 => ⟨r2, d :: ds, ah2, q, x, ⟨v, vs, rfl, p1.mono k2, p2⟩, hh2, h2, hq.step (k1.trans k2), hx.step (k1.trans k2)⟩, hx.step k1⟩
theorem de_runM0 {pl : Sem Bool} (ho : DE X o wo) (c : Cls X.K (He.ga X.K C)) (hm : Meth X.K (He.ga X.K C) m f) (R : DRun X f sp)
    (ht : eval (.Call (.Attribute o m apos) [] [] pos) X.env = (eval o X.env >>= fun ov => standAt apos.atName >>= fun _ => holding [ov] (getMethod ov m pl) >>= fun z => callWith pos z.1 z.2 (backTo pos (starEach [] X.env)) (backToKw pos (keywordEach [] X.env))) := by rfl) :
    DE X (.Call (.Attribute o m apos) [] [] pos) (wMeth C m sp wo wNil) := fun W tk =>
  (pe_runM0 (ho W tk) c hm R tk ht).weak fun s H Q ⟨r, env, ah, q, x, he, hh, hw, hq, hx⟩ => by
    refine ⟨r, env, ah, _, x, he, hh, hw, fun d ah1 h1 r1 H1 v k1 hh1 p1 => ?_, hx⟩
    obtain ⟨⟨a, dx, fs, e1, e2, e3⟩, h1⟩ := insOf_at hh1 p1 h1
    exact ⟨a, dx, fs, e1, e2, e3, r1, [d], ah1, q, x, ⟨v, [], rfl, p1, rfl⟩, hh1, h1, hq.step k1, hx.step k1⟩
/-- C.m(..), m a classmethod -/
def wCMeth (C : Str) (sp : DSp) (w : WA) : WE := fun env ah q x => w env ah (fun ds ah1 => sp (.glo C :: ds) ah1 q x) x
theorem de_runC {pl : Sem Bool} {q0 : Addr} {mc : Value} {np : Pos} (hg : Gl X C) (hm : X.mg C = some (.ref (He.ga X.K C))) (r : ClX.CRead X.K (He.ga X.K C) mc) (c : ClX.CMet X.K (He.ga X.K C) mc m q0 f) (R : DRun X f sp) (ha : DA X (e :: es) ws) (hdb : (C == ("__debug__" : Str)) = false := by decide)
    (hst : starEach (e :: es) X.env = (false, eval e X.env) :: starEach es X.env := by rfl) (hpl : (backTo pos (starEach es X.env)).any (·.1) = false := by rfl)
    (ht : eval (.Call (.Attribute (.Name C np) m apos) (e :: es) [] pos) X.env = (eval (.Name C np) X.env >>= fun ov => standAt apos.atName >>= fun _ => holding [ov] (getMethod ov m pl) >>= fun z => callWith pos z.1 z.2 (backTo pos (starEach (e :: es) X.env)) (backToKw pos (keywordEach [] X.env))) := by rfl) :
    DE X (.Call (.Attribute (.Name C np) m apos) (e :: es) [] pos) (wCMeth C sp ws) := fun W tk =>
  (pe_runC (pe_glob (v := .ref (He.ga X.K C)) hg hm rfl hdb) r c R tk (ha W tk) hst hpl ht).weak fun s H Q ⟨r, env, ah, q, x, he, hh, hw, hq, hx⟩ =>
    ⟨rfl, r, env, ah, _, x, he, hh, hw, fun ds ah2 h2 r2 H2 vs k2 hh2 p2 => ⟨r2, .glo C :: ds, ah2, q, x, ⟨_, vs, rfl, rfl, p2⟩, hh2, h2, hq.step k2, hx.step k2⟩, hx⟩
/-! ### attributes -/
/-- an attribute of the instance; the class is one of these -/
def fFld (Cs : List Str) (m : Str) (d : D) (ah : AH) (q : QE) : Prop := match d with
  | .ref n => (match ah[n]? with
    | some (.ins c fs) => c ∈ Cs ∧ (match fs.lookup m with
      | some y => q y ah
      | none => False)
    | _ => False)
  | _ => False
def wFld (Cs : List Str) (m : Str) (w : WE) : WE := fun env ah q x => w env ah (fun d ah1 => fFld Cs m d ah1 q) x
theorem de_fld {Cs : List Str} (ho : DE X o wo) (hc : ∀ C ∈ Cs, Cls X.K (He.ga X.K C) ∧ NoAttr X.K (He.ga X.K C) m) (hb : attributeBase o m X.env (eval o X.env) = eval o X.env := by rfl) : DE X (.Attribute o m pos) (wFld Cs m wo) := fun W tk =>
  (pe_fld (ho W tk) hb).weak fun s H Q ⟨r, env, ah, q, x, he, hh, hw, hq, hx⟩ => by
    refine ⟨r, env, ah, _, x, he, hh, hw, fun d ah1 h1 r1 H1 v k1 hh1 p1 => ?_, hx⟩
    try dsimp only at h1
    unfold fFld at h1
    split at h1
    · obtain ⟨a, e1, rfl⟩ := p1
      split at h1
      · obtain ⟨dx, vs, f1, _, _, rf⟩ := hh1.ob _ _ _ e1 (by assumption)
        obtain ⟨hC, h1⟩ := h1
        split at h1
        · obtain ⟨y, ly, ry⟩ := rf.look (by assumption)
          exact ⟨a, _, dx, vs, y, rfl, f1, (hc _ hC).1, (hc _ hC).2, ly, (hq.step k1).here h1 hh1 ry⟩
        · exact h1.elim
      · exact h1.elim
    · exact h1.elim
def putFD (f : Str) (y : D) : List (Str × D) → List (Str × D)
  | [] => [(f, y)]
  | (g, x) :: r => if g = f then (g, y) :: r else (g, x) :: putFD f y r
theorem putFD_rep {K : PySem.W.Frag} {r : List Addr} {H : Hp} {m : Str} {d : D} {v : V} (p : Rep K r H d v) : ∀ {l : List (Str × D)} {vs : List (Str × V)}, RepF K r H l vs → RepF K r H (putFD m d l) (putF m v vs)
  | [], _, h => by cases h; exact ⟨v, [], rfl, p, rfl⟩
  | (g, x) :: l, _, ⟨u, vr, e1, p1, q⟩ => by
    subst e1
    unfold putFD putF
    by_cases hg : g = m
    · rw [if_pos hg, if_pos hg]; exact ⟨v, vr, rfl, p, q⟩
    · rw [if_neg hg, if_neg hg]; exact ⟨u, _, rfl, p1, putFD_rep p q⟩
/-- o.m = value -/
def fSetF (Cs : List Str) (m : Str) (o d : D) (ah : AH) (k : AH → Prop) : Prop := match o with
  | .ref n => (match ah[n]? with
    | some (.ins c fs) => c ∈ Cs ∧ fs.length < 1000 ∧ k (ah.set n (.ins c (putFD m d fs)))
    | _ => False)
  | _ => False
def wSetF (Cs : List Str) (m : Str) (v o : WE) : WS := fun env ah dn x => v env ah (fun d ah1 => o env ah1 (fun d1 ah2 => fSetF Cs m d1 d ah2 fun ah3 => dn.nx env ah3) (atE x env)) (atE x env)
theorem ds_fld {Cs : List Str} {value : Expr} {wv : WE} {pos' : Pos} (ho : DE X o wo) (hv : DE X value wv) (hc : ∀ C ∈ Cs, Cls X.K (He.ga X.K C) ∧ NoAttr X.K (He.ga X.K C) m) (hs : swapsWith value (some (.Attribute o m pos')) pos.line X.env = pure false := by rfl) :
    DS X (.Assign [.Attribute o m pos'] value pos) (wSetF Cs m wv wo) := fun W tk =>
  (ps_fld (ho W tk) (hv W tk) hs).weak fun Dn s H ⟨r, env, ah, dn, x, he, hh, hw, hd, hx⟩ => by
    refine ⟨r, env, ah, _, _, he, hh, hw, fun d ah1 h1 r1 H1 v k1 hh1 p1 => ?_, fun C fs ah' h' r' H' dx k' hh' xr => hx C fs env ah' h' r' H' s dx k' hh' (he.mono k') xr⟩
    refine ⟨r1, env, ah1, _, _, he.mono k1, hh1, h1, fun d2 ah2 h2 r2 H2 v2 k2 hh2 p2 => ?_, fun C fs ah' h' r' H' dx k' hh' xr => hx C fs env ah' h' r' H' s dx (k1.trans k') hh' (he.mono (k1.trans k')) xr⟩
    try dsimp only at h2
    unfold fSetF at h2
    split at h2
    · obtain ⟨a, e1, rfl⟩ := p2
      split at h2
      · rename_i cC cfs heq
        obtain ⟨dx, vs, f1, f2, f3, rf⟩ := hh2.ob _ _ _ e1 heq
        obtain ⟨hC, hl, h2⟩ := h2
        have kw := Kp.write (u := .ins (He.ga X.K cC) dx (putF m v vs)) hh2 (List.mem_of_getElem? e1)
        have ne : dx ≠ a := fun z => f2 (z ▸ List.mem_of_getElem? e1)
        exact ⟨a, _, dx, vs, rfl, f1, (hc _ hC).1, (hc _ hC).2, by rw [rf.length]; exact hl, hd.nx _ _ h2 _ _ _ (k1.trans (k2.trans kw)) (hh2.set e1 ⟨dx, _, upd_same, f2, by rw [upd_ne ne]; exact f3, (putFD_rep (p1.mono k2) rf).mono kw⟩) (he.mono (k1.trans (k2.trans kw)))⟩
      · exact h2.elim
    · exact h2.elim
/-! ### a star among the arguments -/
def wStar (w : WE) (ws : WA) : WA := fun env ah q x => w env ah (fun d ah1 => match d with
  | .tup l => ws env ah1 (fun ds ah2 => q (l ++ ds) ah2) x
  | .ref n => (match ah1[n]? with
    | some (.lst l) => ws env ah1 (fun ds ah2 => q (l ++ ds) ah2) x
    | _ => False)
  | _ => False) x
theorem da_star (he : DE X e we) (hr : DA X es ws) (hs : starEach (.Starred e p :: es) X.env = (true, eval e X.env) :: starEach es X.env := by rfl) : DA X (.Starred e p :: es) (wStar we ws) := fun W tk =>
  (StX.pa_star (he W tk) (hr W tk) hs).weak fun s H Q ⟨r, env, ah, q, x, he, hh, hw, hq, hx⟩ => by
    refine ⟨r, env, ah, _, x, he, hh, hw, fun d ah1 h1 r1 H1 v k1 hh1 p1 => ?_, hx⟩
    try dsimp only at h1
    have go : ∀ l vs, Reps X.K r1 H1 l vs → ws env ah1 (fun ds ah2 => q (l ++ ds) ah2) x → LA X.K ws W s H1 fun ys H2 => Q (vs ++ ys) H2 := fun l vs rp h =>
      ⟨r1, env, ah1, _, x, he.mono k1, hh1, h, fun ds ah2 h2 r2 H2 us k2 hh2 p2 => hq _ _ h2 r2 H2 _ (k1.trans k2) hh2 ((rp.mono k2).append p2), hx.step k1⟩
    split at h1
    · obtain ⟨a, xs, rfl, sq, rp⟩ := p1
      exact ⟨a, xs, rfl, .inl sq, go _ _ rp h1⟩
    · obtain ⟨a, e1, rfl⟩ := p1
      split at h1
      · obtain ⟨xs, f1, rp⟩ := hh1.ob _ _ _ e1 (by assumption)
        exact ⟨a, xs, rfl, .inr (.of f1), go _ _ rp h1⟩
      · exact h1.elim
    · exact h1.elim
end
theorem one_of_cls {Pp : Str → Prop} {C : Str} (h : Pp C) : ∀ D ∈ [C], Pp D := fun D hD => by rw [List.mem_singleton.mp hD]; exact h
/-- a def of the module, known to the derivations: its name, how far down it reaches, its promise -/
def Has (P : Program) (wd : World) (K : PySem.W.Frag) (mg : Str → Option Value) (base : Heap) (x : Str) (k : Nat) (sp : DSp) : Prop :=
  ∃ f, mg x = some (.ref f) ∧ PySem.W.keepIn K (.ref f) = true ∧ FnC P wd K mg base k f (LSp K sp)
/-- a method of a class -/
def HasM (P : Program) (wd : World) (K : PySem.W.Frag) (mg : Str → Option Value) (base : Heap) (C m : Str) (k : Nat) (sp : DSp) : Prop :=
  ∃ f, Cls K (He.ga K C) ∧ Meth K (He.ga K C) m f ∧ FnC P wd K mg base k f (LSp K sp)
/-- a class that is made by its __init__ -/
def HasI (P : Program) (wd : World) (K : PySem.W.Frag) (mg : Str → Option Value) (base : Heap) (C : Str) (k : Nat) (sp : DSp) : Prop :=
  ∃ f, mg C = some (.ref (He.ga K C)) ∧ Mk K (He.ga K C) f ∧ FnC P wd K mg base k f (LSp K sp)
/-- a classmethod -/
def HasC (P : Program) (wd : World) (K : PySem.W.Frag) (mg : Str → Option Value) (base : Heap) (C m : Str) (k : Nat) (sp : DSp) : Prop :=
  ∃ f mc q0, mg C = some (.ref (He.ga K C)) ∧ ClX.CRead K (He.ga K C) mc ∧ ClX.CMet K (He.ga K C) mc m q0 f ∧ FnC P wd K mg base k f (LSp K sp)
/-- a property that tells an attribute -/
def PropD (K : PySem.W.Frag) (C f g : Str) : Prop := ∃ (p a : Addr) (nm qual : Str) (params : Arguments) (body : List Stmt) (scope : Scope) (fd : FuncData) (N : List Str) (p1 p2 p3 : Pos), Cls K (He.ga K C) ∧ PropOf K (He.ga K C) f p a ∧ FunD K nm qual params body scope [] [] a fd ∧ FnScope N ["self"] scope ∧ N[0]? = some ("self" : Str) ∧
  body = [.Return (some (.Attribute (.Name "self" p1) g p2)) p3] ∧ NoAttr K (He.ga K C) g ∧ Binds K fd ["self"] []
section
variable {X : Cx} {k j : Nat} {f : Addr} {sp : DSp} {x m C : Str} {p apos pos : Pos} {e o fe : Expr} {es : List Expr} {ws : WA} {wo we wf : WE}
theorem de_fn (F : Has X.prog X.w X.K X.mg X.base x k sp) (hr : RoomG j X.A) (hj : k ≤ j) (hg : Gl X x) (ha : DA X (e :: es) ws) (hdb : (x == ("__debug__" : Str)) = false := by decide) (he : starEach (e :: es) X.env = (false, eval e X.env) :: starEach es X.env := by rfl) (hpl : (backTo pos (starEach es X.env)).any (·.1) = false := by rfl) :
    DE X (.Call (.Name x p) (e :: es) [] pos) (wCall sp [] ws) := by
  obtain ⟨f, h1, h2, h4⟩ := F
  exact de_run (runs_fn h4 hr hj) hg h1 h2 ha hdb he hpl
theorem de_fn0 (F : Has X.prog X.w X.K X.mg X.base x k sp) (hr : RoomG j X.A) (hj : k ≤ j) (hg : Gl X x) (hdb : (x == ("__debug__" : Str)) = false := by decide) : DE X (.Call (.Name x p) [] [] pos) (wCall sp [] wNil) := by
  obtain ⟨f, h1, h2, h4⟩ := F
  exact de_run0 (runs_fn h4 hr hj) hg h1 h2 hdb
theorem de_fnS (F : Has X.prog X.w X.K X.mg X.base x k sp) (hr : RoomG j X.A) (hj : k ≤ j) (hg : Gl X x) (ha : DA X (e :: es) ws) (hdb : (x == ("__debug__" : Str)) = false := by decide) (he : starEach (e :: es) X.env = (false, eval e X.env) :: starEach es X.env := by rfl) (hst : (backTo pos (starEach es X.env)).any (·.1) = true := by rfl) :
    DE X (.Call (.Name x p) (e :: es) [] pos) (wCall sp [] ws) := by
  obtain ⟨f, h1, h2, h4⟩ := F
  exact de_runS (runs_fn h4 hr hj) hg h1 h2 ha hdb he hst
theorem de_mk (F : HasI X.prog X.w X.K X.mg X.base x k sp) (hr : RoomG j X.A) (hj : k + 1 ≤ j) (hg : Gl X x) (ha : DA X (e :: es) ws) (hdb : (x == ("__debug__" : Str)) = false := by decide) (he : starEach (e :: es) X.env = (false, eval e X.env) :: starEach es X.env := by rfl) (hpl : (backTo pos (starEach es X.env)).any (·.1) = false := by rfl) :
    DE X (.Call (.Name x p) (e :: es) [] pos) (wCall (mkSp x sp) [] ws) := by
  obtain ⟨f, h1, h2, h4⟩ := F
  exact de_run (drun_make h2 h4 hr hj) hg h1 h2.kp ha hdb he hpl
theorem de_mk0 (F : HasI X.prog X.w X.K X.mg X.base x k sp) (hr : RoomG j X.A) (hj : k + 1 ≤ j) (hg : Gl X x) (hdb : (x == ("__debug__" : Str)) = false := by decide) : DE X (.Call (.Name x p) [] [] pos) (wCall (mkSp x sp) [] wNil) := by
  obtain ⟨f, h1, h2, h4⟩ := F
  exact de_run0 (drun_make h2 h4 hr hj) hg h1 h2.kp hdb
theorem de_mkS (F : HasI X.prog X.w X.K X.mg X.base x k sp) (hr : RoomG j X.A) (hj : k + 1 ≤ j) (hg : Gl X x) (ha : DA X (e :: es) ws) (hdb : (x == ("__debug__" : Str)) = false := by decide) (he : starEach (e :: es) X.env = (false, eval e X.env) :: starEach es X.env := by rfl) (hst : (backTo pos (starEach es X.env)).any (·.1) = true := by rfl) :
    DE X (.Call (.Name x p) (e :: es) [] pos) (wCall (mkSp x sp) [] ws) := by
  obtain ⟨f, h1, h2, h4⟩ := F
  exact de_runS (drun_make h2 h4 hr hj) hg h1 h2.kp ha hdb he hst
theorem de_mkL (hf : DE X fe wf) (F : HasI X.prog X.w X.K X.mg X.base C k sp) (hr : RoomG j X.A) (hj : k + 1 ≤ j) (ha : DA X (e :: es) ws) (ht : eval (.Call fe (e :: es) [] pos) X.env = (do callWith pos (← eval fe X.env) [] (backTo pos (starEach (e :: es) X.env)) (backToKw pos (keywordEach [] X.env))) := by rfl)
    (he : starEach (e :: es) X.env = (false, eval e X.env) :: starEach es X.env := by rfl) (hst : (backTo pos (starEach es X.env)).any (·.1) = true := by rfl) : DE X (.Call fe (e :: es) [] pos) (wCallL C (mkSp C sp) wf ws) := by
  obtain ⟨f, h1, h2, h4⟩ := F
  exact de_runL hf (drun_make h2 h4 hr hj) h2.kp ha ht he hst
theorem de_meth {pl : Sem Bool} (ho : DE X o wo) (F : HasM X.prog X.w X.K X.mg X.base C m k sp) (hr : RoomG j X.A) (hj : k ≤ j) (ha : DA X (e :: es) ws) (hst : starEach (e :: es) X.env = (false, eval e X.env) :: starEach es X.env := by rfl) (hpl : (backTo pos (starEach es X.env)).any (·.1) = false := by rfl)
    (ht : eval (.Call (.Attribute o m apos) (e :: es) [] pos) X.env = (eval o X.env >>= fun ov => standAt apos.atName >>= fun _ => holding [ov] (getMethod ov m pl) >>= fun z => callWith pos z.1 z.2 (backTo pos (starEach (e :: es) X.env)) (backToKw pos (keywordEach [] X.env))) := by rfl) :
    DE X (.Call (.Attribute o m apos) (e :: es) [] pos) (wMeth C m sp wo ws) := by
  obtain ⟨f, h1, h2, h4⟩ := F
  exact de_runM ho h1 h2 (runs_fn h4 hr hj) ha hst hpl ht
theorem de_meth0 {pl : Sem Bool} (ho : DE X o wo) (F : HasM X.prog X.w X.K X.mg X.base C m k sp) (hr : RoomG j X.A) (hj : k ≤ j)
    (ht : eval (.Call (.Attribute o m apos) [] [] pos) X.env = (eval o X.env >>= fun ov => standAt apos.atName >>= fun _ => holding [ov] (getMethod ov m pl) >>= fun z => callWith pos z.1 z.2 (backTo pos (starEach [] X.env)) (backToKw pos (keywordEach [] X.env))) := by rfl) :
    DE X (.Call (.Attribute o m apos) [] [] pos) (wMeth C m sp wo wNil) := by
  obtain ⟨f, h1, h2, h4⟩ := F
  exact de_runM0 ho h1 h2 (runs_fn h4 hr hj) ht
theorem de_cmeth {pl : Sem Bool} {np : Pos} (F : HasC X.prog X.w X.K X.mg X.base C m k sp) (hr : RoomG j X.A) (hj : k ≤ j) (hg : Gl X C) (ha : DA X (e :: es) ws) (hdb : (C == ("__debug__" : Str)) = false := by decide)
    (hst : starEach (e :: es) X.env = (false, eval e X.env) :: starEach es X.env := by rfl) (hpl : (backTo pos (starEach es X.env)).any (·.1) = false := by rfl)
    (ht : eval (.Call (.Attribute (.Name C np) m apos) (e :: es) [] pos) X.env = (eval (.Name C np) X.env >>= fun ov => standAt apos.atName >>= fun _ => holding [ov] (getMethod ov m pl) >>= fun z => callWith pos z.1 z.2 (backTo pos (starEach (e :: es) X.env)) (backToKw pos (keywordEach [] X.env))) := by rfl) :
    DE X (.Call (.Attribute (.Name C np) m apos) (e :: es) [] pos) (wCMeth C sp ws) := by
  obtain ⟨f, mc, q0, h1, h2, h3, h4⟩ := F
  exact de_runC hg h1 h2 h3 (runs_fn h4 hr hj) ha hdb hst hpl ht
theorem de_prop {g : Str} (ho : DE X o wo) (F : PropD X.K C m g) (hr : RoomG j X.A) (hj : 2 ≤ j) (hb : attributeBase o m X.env (eval o X.env) = eval o X.env := by rfl) : DE X (.Attribute o m pos) (wFld [C] g wo) := fun W tk => by
  obtain ⟨p0, a0, nm, qual, params, body, scope, fd, N, p1, p2, p3, c, hp, F, S, hN, hbd, n, bi⟩ := F
  obtain ⟨oc, od, dV, kV, doc, pm, an, cdv, ct, osl, rfl, lk, hcd, _, _⟩ := F.ex
  refine (pe_prop (CX := CX0) (E := E0) (k := 1) (ds := []) (dvs := []) (ho W tk) c hp (fn_getter (k := 0) lk hcd S hN hbd c n) (hr.room.mono hj) bi .nil pass0 hb).weak fun s H Q ⟨r, env, ah, q, x, he, hh, hw, hq, hx⟩ => ?_
  refine ⟨r, env, ah, _, x, he, hh, hw, fun d ah1 h1 r1 H1 v k1 hh1 p1 => ?_, hx⟩
  try dsimp only at h1
  unfold fFld at h1
  split at h1
  · obtain ⟨a, e1, rfl⟩ := p1
    split at h1
    · obtain ⟨dx, vs, f1, _, _, rf⟩ := hh1.ob _ _ _ e1 (by assumption)
      obtain ⟨hC, h1⟩ := h1
      obtain rfl := List.mem_singleton.mp hC
      split at h1
      · obtain ⟨y, ly, ry⟩ := rf.look (by assumption)
        exact ⟨a, dx, vs, rfl, f1, a, dx, vs, y, rfl, f1, ly, (hq.step k1).here h1 hh1 ry⟩
      · exact h1.elim
    · exact h1.elim
  · exact h1.elim
end
/-! ### def f(a, .., *v) -/
section
variable {P : Program} {wd : World} {K : PySem.W.Frag} {mg : Str → Option Value} {base : Heap} {k : Nat} {f : Addr} {name qual pv : Str} {params : Arguments} {body : List Stmt} {scope : Scope} {fd : FuncData} {N ps : List Str} {sp : DSp} {u : WS}
/-- the arguments ahead of the star, and what is left over as a tuple -/
def starSp (n : Nat) (sp : DSp) : DSp := fun ds ah q x => n ≤ ds.length ∧ (ds.drop n).length ≤ sizeLine ∧ sp (ds.take n ++ [.tup (ds.drop n)]) ah q x
theorem Reps.split {K : PySem.W.Frag} {r : List Addr} {H : Hp} : ∀ (n : Nat) {ds : List D} {vs : List V}, Reps K r H ds vs → Reps K r H (ds.take n) (vs.take n) ∧ Reps K r H (ds.drop n) (vs.drop n)
  | 0, ds, vs, h => ⟨rfl, h⟩
  | n + 1, [], vs, h => by cases h; exact ⟨rfl, rfl⟩
  | n + 1, d :: ds, _, ⟨v, vr, e, h, q⟩ => by
    subst e
    obtain ⟨h1, h2⟩ := Reps.split n q
    exact ⟨⟨v, _, rfl, h, h1⟩, h2⟩
theorem Vals.split : ∀ (n : Nat) {vs : List V} {us : List Value}, Vals vs us → Vals (vs.take n) (us.take n) ∧ Vals (vs.drop n) (us.drop n)
  | 0, vs, us, h => ⟨.nil, h⟩
  | n + 1, _, _, .nil => ⟨.nil, .nil⟩
  | n + 1, _, _, .cons a r => ⟨.cons a (Vals.split n r).1, (Vals.split n r).2⟩
theorem fnc_star (F : FunD K name qual params body scope [] [] f fd) (S : FnScope N (ps ++ [pv]) scope)
    (hb : ∀ (kV doc pm : Value) (an : Option Addr) (cdv ct : Value) (us rest : List Value), us.length = ps.length → bindArgs (PySem.W.fnOf name qual params body scope .none kV doc pm an cdv ct) ⟨us ++ rest, []⟩ = (newTuple rest >>= fun t => pure (ps.zip us ++ [(pv, t)])))
    (hbody : ∀ (cdv : Value) (A : Around) (outer : List Env) (s : Shared) (H : Hp) (E : XK), RoomG k (A.deeper (envOfC qual scope s.heap.objs.size f cdv)) → DSs (cxOf (L2.CX P wd) P wd K mg base N qual scope f cdv A outer s H E) body u)
    (hsp : ∀ ds ah q x, sp ds ah q x → u (startD N.length ds) ah { nx := fun _ ah' => q .non ah', rt := q } (fun e _ ah' => x e ah')) : FnC P wd K mg base (k + 1) f (LSp K (starSp ps.length sp)) := by
  obtain ⟨oc, od, dV, kV, doc, pm, an, cdv, ct, osl, rfl, lk, hcd, hdv, hkv⟩ := F.ex
  obtain rfl : dV = .none := hdv.elim (fun z => z.2) fun z => absurd rfl z.1
  intro A outer s H us vs Q E hr e0 rv ⟨r, ds, ah, q, x, rp, hh, ⟨h1, h2, h3⟩, hq, hx⟩
  have hn : H s.heap.objs.size = none := e0.hok.fresh (Nat.le_refl _)
  obtain ⟨a1, a2⟩ := Vals.split ps.length rv
  obtain ⟨p1, p2⟩ := Reps.split ps.length rp
  have hz : (vs.drop ps.length).length ≤ sizeLine := by rw [p2.length]; exact h2
  have hl1 : (us.take ps.length).length = ps.length := by rw [List.length_take, ← rv.length, rp.length]; omega
  refine StX.run_bnd lk hcd S hr.room e0 (E := E) (G := fun xs H2 => ∃ p, H p = none ∧ xs = vs.take ps.length ++ [V.ref p] ∧ H2 = upd H p (.tup (vs.drop ps.length))) (fun A' Ex Q' h => ?_) fun s2 H2 xs ⟨p, hp, ex, eH⟩ hr' => ?_
  · have e := hb kV doc pm an cdv ct (us.take ps.length) (us.drop ps.length) hl1
    rw [List.take_append_drop] at e
    rw [e]
    refine wpAny_bind (wpAny_newTuple (wpAny_pure ?_) (by rw [← a2.length]; exact hz))
    have un := StX.un_laid (fs := frs outer) (s := s) (o := ({ cls := .type "tuple", data := .seq (us.drop ps.length).toArray } : Obj)) (u := .tup (vs.drop ps.length)) hn
    have new : ObjOk P wd (upd H s.heap.objs.size (.tup (vs.drop ps.length))) (s.heap.push ({ cls := .type "tuple", data := .seq (us.drop ps.length).toArray } : Obj)) s.heap.objs.size (.tup (vs.drop ps.length)) := ⟨hz, _, a2, ⟨_, Heap.get?_push_size _ rfl, rfl, _, rfl⟩⟩
    have z := h _ _ (vs.take ps.length ++ [V.ref s.heap.objs.size]) (us.take ps.length ++ [Value.ref s.heap.objs.size]) (StX.env0_laid e0 new) un rfl
      (fun e s' => StX.cxUp outer s H _ _ E e s' un (fun b o q => Heap.get?_push_of_some _ q) rfl) (a1.append (.cons rfl .nil)) (by rw [List.length_append, List.length_append, a1.length, hl1]; rfl) ⟨_, hn, rfl, rfl⟩
    rw [List.zip_append hl1.symm] at z
    exact z
  · subst ex eH
    have kp : Kp K r H r (upd H p (.tup (vs.drop ps.length))) := Kp.new_ hp
    have rp2 : Reps K r (upd H p (.tup (vs.drop ps.length))) (ds.take ps.length ++ [.tup (ds.drop ps.length)]) (vs.take ps.length ++ [V.ref p]) := (p1.mono kp).append (Reps.one ⟨p, _, rfl, .inl (.inl upd_same), p2.mono kp⟩)
    refine ⟨_, hbody cdv A outer s2 _ E ⟨hr', hr.gd⟩ _ (takes_of rfl rfl rfl rfl), r, startD N.length (ds.take ps.length ++ [.tup (ds.drop ps.length)]), ah, _, _, ?_, hh.new_ hp, hsp _ ah q x h3,
      ⟨fun env1 ah1 h1 r1 H1 s1 k1 hh1 he1 => hq _ _ h1 r1 H1 _ (kp.trans k1) hh1 rfl, hq.step kp, fun _ _ z => z.elim, fun _ _ z => z.elim⟩, fun C fs env1 ah1 h1 r1 H1 s1 dx k1 hh1 he1 xr => hx C fs ah1 h1 r1 H1 dx (kp.trans k1) hh1 xr⟩
    unfold startD L2.start
    rw [rp2.length]
    exact ERep.start _ rp2
end
end Z
namespace Z
open PySem PySem.Spec PyProof.Rows L2
open AutoSeq1 (wpAny_loadPart')
/-! enumerate(tuple) -/
abbrev itObj (t : Addr) : Obj := { cls := .type "tuple_iterator", data := .fields #[.ref t, .int 0 0] }
abbrev enObj (it : Addr) : Obj := { cls := .type "enumerate", data := .fields #[.none, .bool false, .ref it, rawInt 0, .none, .none] }
theorem meets_enumT (l : Addr) (items : Array Value) (n : Nat) (dct : Option Addr) (sl : Array (Option Value)) :
    Meets (Builtin.«enumerate.__new__» ⟨[.type "enumerate", .ref l], []⟩) (fun _ R s => s.heap.get? l = some { cls := .type "tuple", dict := dct, data := .seq items n, slots := sl } ∧
      R (.ok (.ret (.ref (s.heap.push (itObj l)).objs.size))) { s with heap := (s.heap.push (itObj l)).push (enObj s.heap.objs.size) }) :=
  .of_wp fun prog w A R s h => by
    obtain ⟨hp, g, d, tk, os⟩ := s
    obtain ⟨hl, h⟩ := h
    have hsub := sub_enumerate
    have hL : Heap.IsTuple (Shared.heap ⟨hp, g, d, tk, os⟩) l items := ⟨_, hl, rfl, n, rfl⟩
    wp_walk using wpAny_loadPart' hl
    refine wpAny_stack_any fun st => wpAny_pure ?_
    split
    · rename_i c _ _ _ _ _
      cases (c == Value.type "enumerate") <;> (wp_walk using wpAny_loadPart' hl, wpAny_pyIter_tuple hL; exact ⟨_, rfl, h⟩)
    · wp_walk using wpAny_loadPart' hl, wpAny_pyIter_tuple hL
      exact ⟨_, rfl, h⟩

section
variable {prog : Program} {w : World} {A : Around} {E : Value → Shared → Prop} {s : Shared}
theorem call_enumT {l : Addr} {items : Array Value} {Q : Value → Shared → Prop} (hL : s.heap.IsTuple l items)
    (h : ∀ h2, IsEnum h2 (s.heap.objs.size + 1) s.heap.objs.size 0 .none → h2.IsTupleIter s.heap.objs.size l 0 → (∀ b o, s.heap.get? b = some o → h2.get? b = some o) → Q (.ref (s.heap.objs.size + 1)) { s with heap := h2 }) : wpAny (model prog w) A (call (.type "enumerate") [.ref l]) Q E s := by
  obtain ⟨⟨c, dct, dt, sl⟩, hl, hc, n, hd⟩ := hL
  obtain rfl : c = .type "tuple" := hc
  obtain rfl : dt = .seq items n := hd
  refine callType_new F.called_enumerate (by decide) (F.typeCall_enumerate_1 _) (F.newCall_enumerate_1 _) (fun obj => F.args_object_init_2 obj _) F.entry_enumerate_new (meets_enumT l items n dct sl) ⟨hl, ?_⟩
  have hz : (s.heap.push (itObj l)).objs.size = s.heap.objs.size + 1 := Heap.size_push ..
  have he : IsEnum ((s.heap.push (itObj l)).push (enObj s.heap.objs.size)) (s.heap.objs.size + 1) s.heap.objs.size 0 .none := by
    have e := Heap.get?_push_size (s.heap.push (itObj l)) (o := enObj s.heap.objs.size) rfl
    rw [hz] at e
    exact e
  show _ ∧ _
  rw [hz]
  exact ⟨⟨_, he, rfl⟩, h _ he ⟨_, Heap.get?_push_of_some _ (Heap.get?_push_size _ rfl), rfl, rfl⟩ fun b o x => Heap.get?_push_of_some _ (Heap.get?_push_of_some _ x)⟩
theorem enumT_end {e it l : Addr} {i : Nat} {items : Array Value} {old : Value} {Q : Option Value → Shared → Prop} (hh : A.handled = none) (he : IsEnum s.heap e it i old) (hit : s.heap.IsTupleIter it l i) (hl : s.heap.IsTuple l items) (hx : items[i]? = none)
    (hQ : ∀ h2, Heap.ExtBut it s.heap h2 → Q none { s with heap := h2 }) : wpAny (model prog w) A (pyNext (.ref e)) Q E s := by
  have hT : s.TypeIs (.ref e) "enumerate" := ⟨_, he, rfl⟩
  unfold pyNext
  refine wpAny_bind (wpAny_attempt (wpAny_callSpecial?_slot (name := Str.ofString "__next__") hT F.slot_enumerate_next (wpAny_call_entry F.slot_enumerate_next hT F.entry_enumerate_next ?_ (F.args_enumerate_next_1 _))))
  show wpAny _ _ (field (.ref e) 2 >>= _) _ _ s
  refine wpAny_bind (wpAny_field he rfl (x := .ref it) rfl (wpAny_bind (wpAny_nextOf_tuple_end hh hit hl hx fun h2 x eb ⟨o, ho, hc⟩ => ?_)))
  exact wpAny_bind (wpAny_isInstance (T := "StopIteration") (b := true) ⟨o, ho, hc⟩ isSubtype_stop (wpAny_pure (hQ _ eb)))
end
/-- the tuple at a, each item in a new pair -/
def Itu (K : PySem.W.Frag) (a : Addr) : It where
  go := fun i H => ∃ (xs : List V) (x : V), SqT K H a xs ∧ xs[i]? = some x
  yld := fun i H v H2 => ∃ T x, v = .ref T ∧ H T = none ∧ H2 = upd H T (.tup [.int (i : Nat), x]) ∧ ∀ xs, SqT K H a xs → xs[i]? = some x
  stop := fun i H => ∃ xs : List V, SqT K H a xs ∧ xs.length ≤ i
theorem turn_enumT {P : Program} {w : World} {K : PySem.W.Frag} {elts : List Expr} {kk : Nat} {tpos : Pos} (a e it : Addr) :
    Turn P w K (.Tuple elts kk tpos) (Itu K a) [e, it] e (fun i h => (∃ old, IsEnum h e it ((i : Nat) : Int) old) ∧ h.IsTupleIter it a i ∧ e ≠ it) where
  mem := by simp
  obj := fun i h st b hb => by
    obtain ⟨⟨old, he⟩, ⟨o, ho, hc, hd⟩, _⟩ := st
    rcases (show b = e ∨ b = it by simpa using hb) with rfl | rfl
    · exact ⟨_, he, fun v q => nomatch q⟩
    · exact ⟨o, ho, fun v q => by rw [hd] at q; cases q⟩
  keep := fun i h h2 st k => let ⟨⟨old, he⟩, hi, hne⟩ := st; ⟨⟨old, k e (by simp) _ he⟩, hi.at fun o q => k it (by simp) o q, hne⟩
  item := by
    intro X hP hw hK hc i pins s σ H E I hf st hg
    subst hP hw hK
    obtain ⟨⟨old, he⟩, hit, hne⟩ := st
    obtain ⟨xs, x, hq, hx⟩ := hg
    obtain ⟨its, rv, p, hz⟩ := I.tuple hq
    obtain ⟨u, hu, ru⟩ := rv.get hx
    have hel : e < s.heap.objs.size := Heap.lt_size he
    have hil : it < s.heap.objs.size := by obtain ⟨_, q, _⟩ := hit; exact Heap.lt_size q
    have nai : a ≠ it := fun z => by
      obtain ⟨o1, q1, c1, _⟩ := hit
      obtain ⟨o2, q2, c2, _⟩ := p
      rw [z, q1] at q2; cases q2
      rw [c1] at c2
      exact absurd (Value.type.inj c2) (by decide)
    have nae : a ≠ e := fun z => by
      obtain ⟨o2, q2, c2, _⟩ := p
      rw [z, he] at q2; cases q2
      exact absurd (Value.type.inj c2) (by decide)
    have hlt : i < its.toArray.size := by
      have := (List.getElem?_eq_some_iff.mp hu).1
      simpa using this
    refine wpAny_pyNext_enum_itemD (Draws.tuple (A := X.A.in1) (I.ok.hd hc) it a nai its.toArray) he ⟨hit, p⟩ hlt hne (by simp [hne, Ne.symm nae]) fun y h2 tk hy ho hs2 hT hsz hk => ?_
    have ey : y = u := by
      have hy2 : its.toArray[i]? = some y := hy
      rw [List.getElem?_toArray, hu] at hy2
      exact (Option.some.inj hy2).symm
    subst ey
    refine ⟨_, rfl, wpAny_letOwnedTupleGo_enum (s := { s with heap := h2, toks := tk + 1 }) ho fun h3 he3 sb => ?_⟩
    have hT2 : h3.get? s.heap.objs.size = some { cls := .type "tuple", data := .seq #[.int i tk, y] } := (sb.2 _ (Nat.ne_of_gt hel)).trans hT
    have new : ObjOk X.prog X.w (upd H s.heap.objs.size (.tup [.int (i : Nat), x])) h3 s.heap.objs.size (.tup [.int (i : Nat), x]) := ⟨by show 2 ≤ sizeLine; decide, _, .cons ⟨_, rfl⟩ (.cons ru .nil), ⟨_, hT2, rfl, _, rfl⟩⟩
    have I1 : Inv X pins σ (upd H s.heap.objs.size (.tup [.int (i : Nat), x])) { s with heap := h3, toks := tk + 1 } :=
      I.turnedNew (ch := [e, it]) (fun b ob hb q => (sb.2 b (fun z => hb (by simp [z]))).trans (hk b ob (fun z => hb (by simp [z])) (fun z => hb (by simp [z])) q)) hf (Nat.le_refl _) new
    refine ⟨.ref s.heap.objs.size, _, I1, rfl, ⟨_, x, rfl, I.hok.fresh (Nat.le_refl _), rfl, fun ys hy => by rw [I.tuple_inj hy hq]; exact hx⟩, ⟨⟨y, ?_⟩, hs2.1.at fun o q => (sb.2 it (Ne.symm hne)).trans q, hne⟩, fun b hb => ?_⟩
    · rw [show ((i + 1 : Nat) : Int) = (i : Int) + 1 by omega]; exact he3
    · have hb2 : b < s.heap.objs.size := by
        rcases (show b = e ∨ b = it by simpa using hb) with rfl | rfl
        · exact hel
        · exact hil
      rw [upd_ne (Nat.ne_of_lt hb2)]
      exact (hf b hb).1
  done := by
    intro X hP hw hK hc i pins s σ H E I hf st hg
    subst hP hw hK
    obtain ⟨⟨old, he⟩, hit, hne⟩ := st
    obtain ⟨xs, hq, hx⟩ := hg
    obtain ⟨its, rv, p, hz⟩ := I.tuple hq
    obtain ⟨f0, f1, f2, f3, f4, f5⟩ := hf it (by simp)
    have hl := rv.length
    exact enumT_end (I.ok.hd hc) he hit p (by simp; omega) fun h2 eb => ⟨rfl, I.turned (t' := s.toks) (fun b o hb q => eb b o hb q) f0 f1 f3 f4 f5⟩
  self := fun A i s Q E st h => let ⟨⟨_, he⟩, _⟩ := st; wpAny_pyIter_enum he h

theorem pi_enumT {X : Cx} {e : Expr} {ta : TA} {p pos tpos : Pos} {elts : List Expr} {kk : Nat} (hg : Gl X "enumerate") (hm : X.mg "enumerate" = none) (ha : PA X [e] ta) (hs : starEach [e] X.env = [(false, eval e X.env)]) :
    PI X (.Tuple elts kk tpos) (.Call (.Name "enumerate" p) [e] [] pos) (fun σ H R => ta σ H fun vs H1 => ∃ a xs, vs = [.ref a] ∧ SqT X.K H1 a xs ∧ R (Itu X.K a) H1) := by
  refine ⟨fun pins s σ H R I h => Call_ (ld_blt I hg hm boot_enumerate (PyProof.Rows.callWith_type1 (thn (ha.run pos pins s σ H _ I h) fun us s1 ⟨vs, H1, I1, r1, a, xs, ex, hq, q⟩ => ?_) hs rfl))⟩
  subst ex
  obtain ⟨u, rfl, ru⟩ := vals1 r1
  obtain rfl : u = Value.ref a := ru
  obtain ⟨its, rv, p2, hz⟩ := I1.tuple hq
  refine call_enumT p2 fun h2 he hit hk => wpAny_pyIter_enum he ?_
  refine ⟨s1.heap.objs.size + 1, [s1.heap.objs.size + 1, s1.heap.objs.size], _, _, H1, rfl, I1.kept (t' := s1.toks) hk, turn_enumT a (s1.heap.objs.size + 1) s1.heap.objs.size, ⟨⟨.none, he⟩, hit, Nat.succ_ne_self _⟩, fun b hb => ?_, q⟩
  have hle : s1.heap.objs.size ≤ b := by
    rcases (show b = s1.heap.objs.size + 1 ∨ b = s1.heap.objs.size by simpa using hb) with rfl | rfl
    · exact Nat.le_add_right _ _
    · exact Nat.le_refl _
  exact I1.fpOk hle (I1.hok.fresh hle)
/-! .. told of data -/
def numbered (n : Nat) : List D → List D
  | [] => []
  | d :: l => .tup [.int (n : Nat), d] :: numbered (n + 1) l
theorem numbered_at : ∀ (l : List D) (n i : Nat) (y : D), (numbered n l)[i]? = some y → ∃ d, l[i]? = some d ∧ y = .tup [.int ((n + i : Nat) : Int), d]
  | [], n, i, y, e => by simp [numbered] at e
  | d :: l, n, 0, y, e => by simp [numbered] at e; exact ⟨d, rfl, e.symm⟩
  | d :: l, n, i + 1, y, e => by
    simp only [numbered, List.getElem?_cons_succ] at e
    obtain ⟨d2, e1, e2⟩ := numbered_at l (n + 1) i y e
    exact ⟨d2, by simpa using e1, by rw [e2]; congr 4; omega⟩
theorem numbered_len : ∀ (l : List D) (n : Nat), (numbered n l).length = l.length
  | [], _ => rfl
  | _ :: l, n => by simp [numbered, numbered_len l]
theorem jrep_enumT {K : PySem.W.Frag} {r : List Addr} {H : Hp} {a : Addr} {xs : List V} {l : List D} (sq : SqT K H a xs) (rv : Reps K r H l xs) : JRep K r H (Itu K a) ⟨numbered 0 l, fun _ => True⟩ where
  go := fun r1 H1 ah i d k hh _ e => by
    obtain ⟨d2, e1, rfl⟩ := numbered_at l 0 i d e
    obtain ⟨v, e2, p⟩ := (rv.mono k).get e1
    refine ⟨⟨xs, v, k.tup _ _ sq, e2⟩, fun x H2 y => ?_⟩
    obtain ⟨T, u, rfl, hT, rfl, y⟩ := y
    have e3 := y xs (k.tup _ _ sq)
    rw [e2] at e3; cases e3
    refine ⟨Kp.new_ hT, hh.new_ hT, T, [.int (i : Nat), v], rfl, .inl (.inl upd_same), ⟨_, _, rfl, ?_, _, _, rfl, p.mono (Kp.new_ hT), rfl⟩⟩
    show V.int _ = V.int _
    rw [Nat.zero_add]
  stop := fun r1 H1 ah i k hh _ e => ⟨xs, k.tup _ _ sq, by
    rw [numbered_len] at e
    rw [rv.length]; exact e⟩
def wEnum (w : WA) : WI := fun env ah q x => w env ah (fun ds ah1 => match ds with
  | [.tup l] => q ⟨numbered 0 l, fun _ => True⟩ ah1
  | _ => False) x
theorem di_enumT {X : Cx} {e : Expr} {ws : WA} {p pos tpos : Pos} {elts : List Expr} {kk : Nat} (hg : Gl X "enumerate") (hm : X.mg "enumerate" = none) (ha : DA X [e] ws) (hs : starEach [e] X.env = [(false, eval e X.env)] := by rfl) :
    DI X (.Tuple elts kk tpos) (.Call (.Name "enumerate" p) [e] [] pos) (wEnum ws) := fun W tk =>
  (pi_enumT hg hm (ha W tk) hs).weak fun s H R ⟨r, env, ah, q, x, he, hh, hw, hq, hx⟩ => by
    refine ⟨r, env, ah, _, x, he, hh, hw, fun ds ah1 h1 r1 H1 vs k1 hh1 p1 => ?_, hx⟩
    try dsimp only at h1
    split at h1
    · obtain ⟨v, rfl, a, xs, rfl, sq, rv⟩ := p1.one_of
      exact ⟨a, xs, rfl, sq, hq _ _ h1 r1 H1 _ k1 hh1 (jrep_enumT sq rv)⟩
    · exact h1.elim
end Z
namespace Z
open PySem PySem.Spec PyProof.Rows L2
section
variable {X : Cx} {K : PySem.W.Frag} {e : Expr} {we : WE} {pos : Pos}
/-- list.extend by a list -/
def fExtend : FM := fun d ds ah q => match d, ds with
  | .ref n, [.ref m] => (match ah[n]?, ah[m]? with
    | some (.lst xs), some (.lst ys) => xs.length + ys.length ≤ sizeLine ∧ q .non (ah.set n (.lst (xs ++ ys)))
    | _, _ => False)
  | _, _ => False
theorem met_extend : MetX X "list" "list.extend" isLst fExtend := by
  refine ⟨_, mt_extend, fun rr H ah d v hh p h => isLst_ty hh p h, fun rr H ah d v ds vs q Q hh p ps w hq => ?_⟩
  unfold fExtend at w
  split at w
  · obtain ⟨a, e1, rfl⟩ := p
    obtain ⟨y', rfl, b, e2, rfl⟩ := ps.one_of
    split at w
    · obtain ⟨xs, f, rv⟩ := hh.ob _ _ _ e1 (by assumption)
      obtain ⟨ys, f2, rv2⟩ := hh.ob _ _ _ e2 (by assumption)
      have kw := Kp.write (u := .lst (xs ++ ys)) hh (List.mem_of_getElem? e1)
      exact ⟨a, b, xs, ys, rfl, rfl, f, f2, by rw [rv.length, rv2.length]; exact w.1, hq _ _ w.2 rr _ _ kw (hh.set e1 ⟨_, upd_same, (rv.append rv2).mono kw⟩) rfl⟩
    · exact w.elim
  · exact w.elim
/-- str.endswith -/
def fEnds : FM := fun d ds ah q => match d, ds with
  | .str z, [.str y] => q (.bl (Txt.endswith z y)) ah
  | _, _ => False
theorem met_endswith : MetX X "str" "str.endswith" isStr fEnds := by
  refine ⟨_, mt_endswith, fun rr H ah d v hh p h => isStr_ty hh p h, fun rr H ah d v ds vs q Q hh p ps w hq => ?_⟩
  unfold fEnds at w
  split at w
  · obtain ⟨y', rfl, py⟩ := ps.one_of
    cases p; cases py
    exact ⟨_, _, rfl, rfl, hq.here w hh rfl⟩
  · exact w.elim
/-- isinstance(e, (S, T)), two built-in types -/
def wIsi2 (S T : String) (w : WE) : WE := fun env ah q x => w env ah (fun d ah1 => match tyD ah1 d with
  | some t => q (.bl (isTy t S || isTy t T)) ah1
  | none => False) x
theorem kitAny2 {t S T : String} (h1 : t ∈ tyNames) (h2 : S ∈ tyNames) (h3 : T ∈ tyNames) : PySem.W.kitAny K (.type t) [.type S, .type T] = some (isTy t S || isTy t T) := by
  unfold PySem.W.kitAny
  rw [kit_ty (kitB_of h1 h2)]
  cases isTy t S with
  | true => rfl
  | false =>
    show PySem.W.kitAny K (.type t) [.type T] = _
    unfold PySem.W.kitAny
    rw [kit_ty (kitB_of h1 h3)]
    cases isTy t T <;> rfl
theorem de_isi2 {S T : String} {x y : Str} {p p1 p2 p3 : Pos} {kk : Nat} (he : DE X e we) (hg : Gl X "isinstance") (hm : X.mg "isinstance" = none) (hgx : Gl X x) (hmx : X.mg x = none) (hvx : bootBuiltins x = some (.type S)) (hgy : Gl X y) (hmy : X.mg y = none) (hvy : bootBuiltins y = some (.type T))
    (hS : S ∈ tyNames) (hT : T ∈ tyNames) (hv : bootBuiltins "isinstance" = some (.builtin "isinstance")) (hnx : x ≠ "__name__" := by decide) (hny : y ≠ "__name__" := by decide) (hdx : (x == ("__debug__" : Str)) = false := by decide) (hdy : (y == ("__debug__" : Str)) = false := by decide)
    (hs : starEach [e, .Tuple [.Name x p1, .Name y p2] kk p3] X.env = (false, eval e X.env) :: starEach [.Tuple [.Name x p1, .Name y p2] kk p3] X.env := by rfl) (hpl : (backTo pos (starEach [.Tuple [.Name x p1, .Name y p2] kk p3] X.env)).any (·.1) = false := by rfl) :
    DE X (.Call (.Name "isinstance" p) [e, .Tuple [.Name x p1, .Name y p2] kk p3] [] pos) (wIsi2 S T we) := fun W tk =>
  (pe_callB call_isiT hg hm hv (pa_cons (he W tk) (pa_cons (pe_tup (pa_cons (pe_bltn (v := .ty S) hgx hmx hvx rfl hnx hdx) (pa_cons (pe_bltn (v := .ty T) hgy hmy hvy rfl hny hdy) pa_nil))) pa_nil) hs) (by decide) (by decide) hs hpl).weak fun s H Q ⟨r, env, ah, q, x, he, hh, hw, hq, hx⟩ => by
    refine ⟨r, env, ah, _, x, he, hh, hw, fun d ah1 h1 r1 H1 v k1 hh1 p1 => ?_, hx⟩
    try dsimp only at h1
    split at h1
    · rename_i t ht
      refine ⟨show 2 ≤ 16777216 by decide, fun P hP => ?_⟩
      refine ⟨v, P, [.ty S, .ty T], _, _, _, rfl, upd_same, .cons (.ty _) (.cons (.ty _) .nil), tyD_ok (hh1.new_ hP) (p1.mono (Kp.new_ hP)) ht, kitAny2 (tyD_mem ht) hS hT, ?_⟩
      exact hq _ _ h1 r1 _ _ (k1.trans (Kp.new_ hP)) (hh1.new_ hP) rfl
    · exact h1.elim
end
end Z
namespace Z
open PySem PySem.Spec PyProof.Rows L2
/-! the head's facts: defs by their addresses, and what else is asked of the text -/
structure DefZ where
  ad : PySem.W.Frag → Addr
  d : He.DefD
def fnZ (K : PySem.W.Frag) (a : Addr) : He.FnW := match K.lookup a with
  | some ⟨_, _, .func g, _⟩ => some (g.name, g.qualname, g.params, g.body, g.scope, g.globals, g.closure, g.builtins)
  | _ => none
def DefZ.ok (K : PySem.W.Frag) (z : DefZ) : Bool := PySem.W.keepIn K (.ref (z.ad K)) && (match K.lookup (z.ad K) with
  | some ⟨_, _, .func g, _⟩ => PySem.W.codeIn K g.code z.d.qual && (He.dflB K g.defaults (z.d.dvs K) && He.kwdB K g.kwdefaults (z.d.kws K))
  | _ => false)
theorem DefZ.fun_ {K : PySem.W.Frag} {z : DefZ} (e : fnZ K (z.ad K) = z.d.val) (c : z.ok K = true) : ∃ fd, FunD K z.d.name z.d.qual z.d.params z.d.body z.d.scope (z.d.dvs K) (z.d.kws K) (z.ad K) fd := by
  unfold DefZ.ok at c
  unfold fnZ at e
  rw [Bool.and_eq_true] at c
  obtain ⟨kp, c⟩ := c
  split at c
  · rename_i oc od g osl hl
    rw [hl] at e
    simp only [Bool.and_eq_true] at c
    obtain ⟨n1, n2, n3, n4, n5, n6, n7, n8, n9, n10, n11, n12, n13, n14, n15⟩ := g
    simp only [He.DefD.val, Option.some.injEq, Prod.mk.injEq] at e
    obtain ⟨h1, h2, h3, h4, h5, h6, h7, h8⟩ := e
    subst h1 h2 h3 h4 h5 h6 h7 h8
    exact ⟨_, ⟨oc, od, n8, n9, n10, n11, n12, n13, n14, osl, rfl, hl, c.1, He.dflB_ok c.2.1, He.kwdB_ok c.2.2⟩, kp⟩
  · cases c
abbrev Exs := List (PySem.W.Frag → Bool)
def obsZ (fa : List He.Fa) (fn : List DefZ) (ex : Exs) (K : PySem.W.Frag) : He.AlD := ((ex.all fun f => f K) && ((fa.all fun f => f.ok K) && fn.all fun d => d.ok K), fn.map fun d => fnZ K (d.ad K))
def valZ (fn : List DefZ) : He.AlD := (true, fn.map fun z => z.d.val)
structure SaysZ (fa : List He.Fa) (fn : List DefZ) (ex : Exs) (K : PySem.W.Frag) : Prop where
  e : obsZ fa fn ex K = valZ fn
section
variable {fa : List He.Fa} {fn : List DefZ} {ex : Exs} {K : PySem.W.Frag}
theorem SaysZ.all (c : SaysZ fa fn ex K) : (ex.all fun f => f K) = true ∧ (fa.all fun f => f.ok K) = true ∧ (fn.all fun d => d.ok K) = true := by
  have h : ((ex.all fun f => f K) && ((fa.all fun f => f.ok K) && fn.all fun d => d.ok K)) = true := congrArg (fun z : He.AlD => z.1) c.e
  rw [Bool.and_eq_true, Bool.and_eq_true] at h
  exact h
theorem SaysZ.fact (c : SaysZ fa fn ex K) (i : Nat) {f : He.Fa} (h : fa[i]? = some f := by rfl) : f.ok K = true := List.all_eq_true.mp c.all.2.1 f (List.mem_of_getElem? h)
theorem SaysZ.more (c : SaysZ fa fn ex K) (i : Nat) {f : PySem.W.Frag → Bool} (h : ex[i]? = some f := by rfl) : f K = true := List.all_eq_true.mp c.all.1 f (List.mem_of_getElem? h)
theorem SaysZ.def_ (c : SaysZ fa fn ex K) (i : Nat) {d : DefZ} (h : fn[i]? = some d := by rfl) : ∃ fd, FunD K d.d.name d.d.qual d.d.params d.d.body d.d.scope (d.d.dvs K) (d.d.kws K) (d.ad K) fd := by
  have e : fn.map (fun d => fnZ K (d.ad K)) = fn.map fun z => z.d.val := congrArg (fun z : He.AlD => z.2) c.e
  have e2 := congrArg (fun l : List He.FnW => l[i]?) e
  simp only [List.getElem?_map, h, Option.map_some] at e2
  exact DefZ.fun_ (Option.some.inj e2) (List.all_eq_true.mp c.all.2.2 d (List.mem_of_getElem? h))
end
def hookZ (n : Nat) (fa : List He.Fa) (fn : List DefZ) (ex : Exs) : PySem.W.Hook where
  α := He.AlD
  obs := fun s => obsZ fa fn ex (He.frG s.heap.get? (cStatics :: He.asD s.heap.get? n))
  val := fun _ => valZ fn
  says := fun _ h => ∃ K : PySem.W.Frag, K.In h ∧ SaysZ fa fn ex K
  of := fun _ _ e => ⟨_, He.frG_in, ⟨e⟩⟩
  keeps := fun _ _ _ ⟨K, hK, c⟩ k => ⟨K, PySem.W.Frag.In.keeps hK k, c⟩
theorem obsZ_eq {n : Nat} {fa : List He.Fa} {fn : List DefZ} {ex : Exs} {g : Addr → Option Obj} {s : Shared} (h : ∀ a, g a = s.heap.get? a) : obsZ fa fn ex (He.frG g (cStatics :: He.asD g n)) = (hookZ n fa fn ex).obs s := by
  have e : g = s.heap.get? := funext h
  rw [e]; rfl
/-! ### further facts -/
section
variable {K : PySem.W.Frag}
def xTup (x : Str) (ss : List Str) : PySem.W.Frag → Bool := fun K => He.tupB K x (ss.map He.Dv.str)
theorem xTup_ok {x : Str} {ss : List Str} (h : xTup x ss K = true) : KTup K (He.ga K x) ss := by
  have q := He.tupB_ok h (fun _ => none)
  rcases q with (z | ⟨o, z⟩) | z
  · exact nomatch z
  · exact nomatch z
  · rw [List.map_map] at z
    exact z
/-- the def behind a property, a classmethod -/
def recA (K : PySem.W.Frag) (T : String) (C m : Str) : Addr := match PySem.W.findIn K (.ref (He.ga K C)) m with
  | some (some (.ref p)) => (match PySem.W.recIn K p T with
    | some (.ref g :: _) => g
    | _ => 0)
  | _ => 0
def xProp (C m : Str) : PySem.W.Frag → Bool := fun K => match PySem.W.findIn K (.ref (He.ga K C)) m with
  | some (some (.ref p)) => (match PySem.W.recIn K p "property" with
    | some (.ref _ :: _) => true
    | _ => false) && (He.eqO (PySem.W.specialIn K (.ref p) "__get__") (some (some (.builtin "property.__get__"))) && decide (PySem.W.takesIn K (.ref p) = some true))
  | _ => false
theorem xProp_ok {C m : Str} (h : xProp C m K = true) : ∃ p, PropOf K (He.ga K C) m p (recA K "property" C m) := by
  unfold xProp at h
  split at h
  · rename_i p hp
    simp only [Bool.and_eq_true] at h
    obtain ⟨h1, h2, h3⟩ := h
    split at h1
    · rename_i g rest hg
      refine ⟨p, hp, He.eqO_ok h2, of_decide_eq_true h3, rest, ?_⟩
      unfold recA
      rw [hp]
      dsimp only
      rw [hg]
    · cases h1
  · cases h
def isGetC (K : PySem.W.Frag) (C : Addr) (p : Addr) (m : Str) : Bool := match PySem.W.findCls K (.ref C) (.type "type") m with
  | some (.get g a o t) => decide (g = .builtin "classmethod.__get__" ∧ a = .ref p ∧ o = .none ∧ t = .ref C)
  | _ => false
def xCMet (C m : Str) : PySem.W.Frag → Bool := fun K => match PySem.W.findIn K (.ref (He.ga K C)) m with
  | some (some (.ref p)) => (match PySem.W.recIn K p "classmethod" with
    | some (.ref g :: _) => PySem.W.fnIn K g
    | _ => false) && (isGetC K (He.ga K C) p m && (PySem.W.readsIn K (He.ga K C) (.type "type") && He.eqO (PySem.W.specialIn K (.ref (He.ga K C)) "__getattribute__") (some (some (.builtin "type.__getattribute__")))))
  | _ => false
theorem xCMet_ok {C m : Str} (h : xCMet C m K = true) : ∃ mc q0, ClX.CRead K (He.ga K C) mc ∧ ClX.CMet K (He.ga K C) mc m q0 (recA K "classmethod" C m) := by
  unfold xCMet at h
  split at h
  · rename_i p hp
    simp only [Bool.and_eq_true] at h
    obtain ⟨h1, h2, h3, h4⟩ := h
    split at h1
    · rename_i g rest hg
      have er : recA K "classmethod" C m = g := by
        unfold recA
        rw [hp]
        dsimp only
        rw [hg]
      unfold isGetC at h2
      split at h2
      · rename_i a1 a2 a3 a4 hc
        obtain ⟨rfl, rfl, rfl, rfl⟩ := of_decide_eq_true h2
        exact ⟨.type "type", p, ⟨h3, He.eqO_ok h4⟩, hc, ⟨rest, by rw [er]; exact hg⟩, by rw [er]; exact h1⟩
      · cases h2
    · cases h1
  · cases h
end
section
variable {P : Program} {wd : World} {K : PySem.W.Frag} {mg : Str → Option Value} {base : Heap} {k : Nat} {f : Addr} {fd : FuncData} {ps N : List Str} {sp : DSp} {u : WS} {x y qual pv : Str} {params : Arguments} {body : List Stmt} {scope : Scope} {dvs : List V} {kws : List (Str × V)}
abbrev BodyOk (P : Program) (wd : World) (K : PySem.W.Frag) (mg : Str → Option Value) (base : Heap) (k : Nat) (N : List Str) (qual : Str) (scope : Scope) (f : Addr) (body : List Stmt) (u : WS) : Prop :=
  ∀ (cdv : Value) (A : Around) (outer : List Env) (s : Shared) (H : Hp) (E : XK), RoomG k (A.deeper (envOfC qual scope s.heap.objs.size f cdv)) → DSs (cxOf (L2.CX P wd) P wd K mg base N qual scope f cdv A outer s H E) body u
abbrev KeepsTo (sp : DSp) (n : Nat) (u : WS) : Prop := ∀ ds ah q x, sp ds ah q x → u (startD n ds) ah { nx := fun _ ah' => q .non ah', rt := q } (fun e _ ah' => x e ah')
theorem mk_fnc (F : FunD K x qual params body scope dvs kws f fd) (hb : Binds K fd ps []) (S : FnScope N ps scope) (len : ∀ ds ah q x, sp ds ah q x → ds.length = ps.length) (hbody : BodyOk P wd K mg base k N qual scope f body u) (hsp : KeepsTo sp N.length u) : FnC P wd K mg base (k + 1) f (LSp K sp) :=
  fnc_of (dfn_of F S len hbody hsp) hb
theorem mk_has (F : FunD K x qual params body scope dvs kws f fd) (hm : mg y = some (.ref f)) (hb : Binds K fd ps []) (S : FnScope N ps scope) (len : ∀ ds ah q x, sp ds ah q x → ds.length = ps.length) (hbody : BodyOk P wd K mg base k N qual scope f body u) (hsp : KeepsTo sp N.length u) : Has P wd K mg base y (k + 1) sp :=
  ⟨f, hm, F.kp, mk_fnc F hb S len hbody hsp⟩
theorem propD_of {C m g : Str} {p1 p2 p3 : Pos} (c : Cls K (He.ga K C)) (hx : xProp C m K = true) (F : FunD K x qual params body scope [] [] (recA K "property" C m) fd) (S : FnScope N ["self"] scope) (hN : N[0]? = some ("self" : Str)) (hb : body = [.Return (some (.Attribute (.Name "self" p1) g p2)) p3]) (n : NoAttr K (He.ga K C) g) (bi : Binds K fd ["self"] []) : PropD K C m g := by
  obtain ⟨p, hp⟩ := xProp_ok hx
  exact ⟨p, _, _, _, _, _, _, _, N, p1, p2, p3, c, hp, F, S, hN, hb, n, bi⟩
end
end Z
namespace Z
open PySem PySem.Spec PyProof.Rows L2
/-! ### own exceptions, raised -/
/-- what the text says of an exception's class -/
def xOex (C : Str) : PySem.W.Frag → Bool := fun K => (match K.lookup (He.ga K C) with
  | some ⟨.type "type", _, .cls cd, sl⟩ => (match cd.mro, sl.toList with
    | .ref c :: bm, [_, _, _, _, some (.builtin n), _] => decide (c = He.ga K C) && (decide (n = "ValueError.__new__") && (!cd.hasDel && (cd.hasDict && PySem.HandSPX.refsVE bm)))
    | _, _ => false)
  | _ => false) && (He.eqO (PySem.W.findIn K (.ref (He.ga K C)) "__setattr__") (some (some (.builtin "object.__setattr__"))) && (decide (PySem.W.subIn K (.ref (He.ga K C)) (.type "BaseException") = some true) && (decide (PySem.W.typeIn K (.ref (He.ga K C)) = some (.type "type")) && PySem.W.keepIn K (.ref (He.ga K C)))))
theorem xOex_ok {K : PySem.W.Frag} {C : Str} (h : xOex C K = true) : OexC K (He.ga K C) := by
  unfold xOex at h
  simp only [Bool.and_eq_true] at h
  obtain ⟨h1, h2, h3, h4, h5⟩ := h
  refine ⟨?_, He.eqO_ok h2, of_decide_eq_true h3, of_decide_eq_true h4, h5⟩
  split at h1
  · rename_i dd cd sl ho
    split at h1
    · rename_i c bm k0 k1 k2 k3 n k5 hm hs
      simp only [Bool.and_eq_true, decide_eq_true_eq, Bool.not_eq_true'] at h1
      obtain ⟨rfl, rfl, hdel, hdict, hb⟩ := h1
      obtain ⟨nm, bs, mro, ns, qn, hd, sn, sub, ab, col, del⟩ := cd
      dsimp only at hm hdel hdict
      subst hm hdel hdict
      obtain ⟨l⟩ := sl
      dsimp only at hs
      subst hs
      exact ⟨nm, qn, ns, bs, bm, sn, sub, ab, col, dd, k0, k1, k2, k3, k5, ho, hb⟩
    · cases h1
  · cases h1
/-- S.__init__ is ValueError's -/
def xSup (S : Str) : PySem.W.Frag → Bool := fun K => (match PySem.W.findCls K (.ref (He.ga K S)) (.type "type") "__init__" with
  | some (.val v) => decide (v = .builtin "ValueError.__init__")
  | _ => false) && (PySem.W.readsIn K (He.ga K S) (.type "type") && He.eqO (PySem.W.specialIn K (.ref (He.ga K S)) "__getattribute__") (some (some (.builtin "type.__getattribute__"))))
structure SupC (K : PySem.W.Frag) (S : Str) : Prop where
  rd : ClX.CRead K (He.ga K S) (.type "type")
  at_ : PySem.W.findCls K (.ref (He.ga K S)) (.type "type") "__init__" = some (.val (.builtin "ValueError.__init__"))
theorem xSup_ok {K : PySem.W.Frag} {S : Str} (h : xSup S K = true) : SupC K S := by
  unfold xSup at h
  simp only [Bool.and_eq_true] at h
  obtain ⟨h1, h2, h3⟩ := h
  split at h1
  · rename_i v hv
    obtain rfl := of_decide_eq_true h1
    exact ⟨⟨h2, He.eqO_ok h3⟩, hv⟩
  · cases h1
/-- the class has an __init__ of its own -/
def xInit (C : Str) : PySem.W.Frag → Bool := fun K => He.eqO (PySem.W.findIn K (.ref (He.ga K C)) "__init__") (some (some (.ref (He.ma K (He.ga K C) "__init__")))) && decide (PySem.W.typeIn K (.ref (He.ma K (He.ga K C) "__init__")) = some (.type "function"))
theorem xInit_ok {K : PySem.W.Frag} {C : Str} (h : xInit C K = true) : PySem.W.findIn K (.ref (He.ga K C)) "__init__" = some (some (.ref (He.ma K (He.ga K C) "__init__"))) ∧ PySem.W.typeIn K (.ref (He.ma K (He.ga K C) "__init__")) = some (.type "function") := by
  unfold xInit at h
  rw [Bool.and_eq_true] at h
  exact ⟨He.eqO_ok h.1, of_decide_eq_true h.2⟩
section
variable {X : Cx} {S C f : Str} {e o : Expr} {es : List Expr} {ta : TA} {te : TE} {p p1 p2 pos pos' : Pos} {ws : WA}
/-- S.__init__(self, ..), S a class of the module above which stands ValueError -/
theorem pe_sup {pl : Sem Bool} (hg : Gl X S) (hm : X.mg S = some (.ref (He.ga X.K S))) (c : SupC X.K S) (ha : PA X (e :: es) ta) (hdb : (S == ("__debug__" : Str)) = false)
    (ht : eval (.Call (.Attribute (.Name S p1) "__init__" p2) (e :: es) [] pos) X.env = (eval (.Name S p1) X.env >>= fun ov => standAt p2.atName >>= fun _ => holding [ov] (getMethod ov "__init__" pl) >>= fun z => callWith pos z.1 z.2 (backTo pos (starEach (e :: es) X.env)) (backToKw pos (keywordEach [] X.env))))
    (he : starEach (e :: es) X.env = (false, eval e X.env) :: starEach es X.env) (hpl : (backTo pos (starEach es X.env)).any (·.1) = false) : PE X (.Call (.Attribute (.Name S p1) "__init__" p2) (e :: es) [] pos) (tVeI X.K ta) := by
  refine ⟨fun pins s σ H Q I h => PySem.W.methodCall_KW (pl := pl) (ld_glob I hg hm ?_ hdb) ht⟩
  refine PySem.W.method_cls I.kIn c.rd.ga (PySem.W.cls_value I.kIn c.rd.rd c.at_ rfl ?_)
  refine PyProof.Rows.callWith_method1 (thn (ha.run pos pins _ σ H _ (I.tok _) h) fun us s1 ⟨vs, H1, I1, r1, a, C, ws, ev, hl, T, ea, q⟩ => ?_) he hpl
  subst ev
  cases r1 with
  | @cons _ u0 _ ur ra rr =>
    obtain rfl : u0 = Value.ref a := ra
    exact oinit_ok T I1 ea (by rw [← Paired.length rr, sizeLine_eq]; omega) fun s2 J => ⟨.non, H1, J, rfl, q⟩
/-- the promise of an exception's __init__: its attributes, the last one first -/
def spX (K : PySem.W.Frag) (C : Addr) (fs : List Str) : Sp := fun vs H Q _ => ∃ (a : Addr) (ys : List V), vs = .ref a :: ys ∧ ys.length = fs.length ∧ OexC K C ∧ H a = some (exo a C none) ∧
  ∀ d, H d = none → d ≠ a → Q .non (upd (upd H d (exd d (fs.zip ys).reverse)) a (exo a C (some d)))
def spX0 (K : PySem.W.Frag) (C : Addr) : Sp := fun vs H Q _ => ∃ a : Addr, vs = [.ref a] ∧ OexC K C ∧ H a = some (exo a C none) ∧ Q .non H
/-- an exception's class, as it is raised -/
def ExcI (P : Program) (wd : World) (K : PySem.W.Frag) (mg : Str → Option Value) (base : Heap) (C : Str) (fs : List Str) : Prop := ∃ (fI : Addr) (fd : FuncData) (ps : List Str), mg C = some (.ref (He.ga K C)) ∧ OexC K (He.ga K C) ∧
  PySem.W.findIn K (.ref (He.ga K C)) "__init__" = some (some (.ref fI)) ∧ PySem.W.typeIn K (.ref fI) = some (.type "function") ∧ FnOk P wd K mg base CX0 1 fI fd ps (spX K (He.ga K C) fs) ∧ Binds K fd ps []
def wRaise (C : Str) (fs : List Str) (w : WA) : WS := fun env ah _ x => w env ah (fun ds ah1 => ds.length = fs.length ∧ fs.length ≤ 1000 ∧ x (C, (fs.zip ds).reverse) env ah1) (atE x env)
theorem RepF.zip {K : PySem.W.Frag} {r : List Addr} {H : Hp} : ∀ {fs : List Str} {ds : List D} {vs : List V}, Reps K r H ds vs → RepF K r H (fs.zip ds) (fs.zip vs)
  | [], ds, vs, h => by cases ds <;> cases vs <;> rfl
  | f :: fs, [], vs, h => by cases h; rfl
  | f :: fs, d :: ds, _, ⟨v, vr, e, p, q⟩ => by subst e; exact ⟨v, _, rfl, p, RepF.zip q⟩
theorem RepF.reverse {α : Type} {K : PySem.W.Frag} {r : List Addr} {H : Hp} : ∀ {l : List (α × D)} {vs : List (α × V)}, RepF K r H l vs → RepF K r H l.reverse vs.reverse
  | [], vs, h => by cases h; rfl
  | (k, d) :: l, _, ⟨v, vr, e, p, q⟩ => by
    subst e
    rw [List.reverse_cons, List.reverse_cons]
    exact (RepF.reverse q).append ⟨v, [], rfl, p, rfl⟩
theorem ds_raise {j : Nat} {fs : List Str} (F : ExcI X.prog X.w X.K X.mg X.base C fs) (hr : RoomG j X.A) (hj : 2 ≤ j) (hc : X.calm = true) (hg : Gl X C) (h0 : fs ≠ []) (ha : DA X (e :: es) ws) (hdb : (C == ("__debug__" : Str)) = false := by decide)
    (he : starEach (e :: es) X.env = (false, eval e X.env) :: starEach es X.env := by rfl) (hpl : (backTo pos (starEach es X.env)).any (·.1) = false := by rfl) :
    DS X (.Raise (some (.Call (.Name C p) (e :: es) [] pos)) none pos') (wRaise C fs ws) := fun W tk => by
  obtain ⟨fI, fd, ps, hm, T, iC, tI, F1, hb⟩ := F
  refine (ps_raise hc tk (pmk_oex (ds := []) (dvs := []) T iC tI F1 (hr.room.mono hj) hb .nil pass0 hg hm (ha W tk) hdb he hpl)).weak fun Dn s H ⟨r, env, ah, dn, x, he, hh, hw, hd, hx⟩ => ?_
  refine ⟨r, env, ah, _, _, he, hh, hw, fun ds ah1 h1 r1 H1 vs k1 hh1 p1 => ?_, fun C fs ah' h' r' H' dx k' hh' xr => hx C fs env ah' h' r' H' s dx k' hh' (he.mono k') xr⟩
  obtain ⟨h1, h2, h3⟩ := h1
  refine ⟨by rw [p1.length, h1]; exact h2, fun a hna => ⟨a, vs, by rw [List.append_nil], by rw [p1.length, h1], T, upd_same, fun d hd hne => ?_⟩⟩
  rw [upd_ne hne] at hd
  refine ⟨rfl, d, (fs.zip vs).reverse, upd_same, by rw [upd_ne hne]; exact upd_same, hd, ?_⟩
  have eh : upd (del (upd (upd (upd H1 a (exo a (He.ga X.K C) none)) d (exd d (fs.zip vs).reverse)) a (exo a (He.ga X.K C) (some d))) a) d (.xd (fs.zip vs).reverse) = upd H1 d (.xd (fs.zip vs).reverse) := by
    funext b
    by_cases hbd : b = d
    · subst hbd; rw [upd_same, upd_same]
    · rw [upd_ne hbd, upd_ne hbd]
      by_cases hba : b = a
      · subst hba; rw [del_same, hna]
      · rw [del_ne hba, upd_ne hba, upd_ne hbd, upd_ne hba]
  rw [eh]
  have kn : Kp X.K r1 H1 r1 (upd H1 d (.xd (fs.zip vs).reverse)) := Kp.new_ hd
  exact hx C _ env ah1 h3 r1 _ s (some d) (k1.trans kn) (hh1.new_ hd) (he.mono (k1.trans kn)) (.inl ⟨d, _, rfl, hh1.fresh hd, upd_same, (RepF.zip (p1.mono kn)).reverse⟩)
/-- an __init__ with one attribute, with two -/
theorem excI_of {K : PySem.W.Frag} {P : Program} {wd : World} {mg : Str → Option Value} {base : Heap} {fs ps : List Str} {fd : FuncData} (hm : mg C = some (.ref (He.ga K C))) (T : xOex C K = true) (i : xInit C K = true)
    (F : FnOk P wd K mg base CX0 1 (He.ma K (He.ga K C) "__init__") fd ps (spX K (He.ga K C) fs)) (hb : Binds K fd ps []) : ExcI P wd K mg base C fs :=
  ⟨_, fd, ps, hm, xOex_ok T, (xInit_ok i).1, (xInit_ok i).2, F, hb⟩
end

section
variable {P : Program} {wd : World} {K : PySem.W.Frag} {mg : Str → Option Value} {base : Heap} {C : Addr} {fI : Addr} {fd : FuncData} {nm qual x y f g t : Str} {params : Arguments} {body : List Stmt} {scope : Scope}
def tB1 (K : PySem.W.Frag) (t f : Str) : TS := tSeq (tDrop (tVeI K (tCons (tVar 0) (tCons (tC (.str t)) tNil)))) (tOst K f (tVar 0) (tVar 1))
def tB2 (K : PySem.W.Frag) (t f g : Str) : TS := tSeq (tDrop (tVeI K (tCons (tVar 0) (tCons (tC (.str t)) tNil)))) (tSeq (tOst K f (tVar 0) (tVar 1)) (tOst K g (tVar 0) (tVar 2)))
abbrev NoxOk (P : Program) (wd : World) (K : PySem.W.Frag) (mg : Str → Option Value) (base : Heap) (N : List Str) (qual : Str) (scope : Scope) (fI : Addr) (body : List Stmt) (t : TS) : Prop :=
  ∀ (cdv : Value) (A : Around) (outer : List Env) (s : Shared) (H : Hp) (E : XK), PSs (cxOf CX0 P wd K mg base N qual scope fI cdv A outer s H E).nox body t
theorem init1_of (F : FunD K nm qual params body scope [] [] fI fd) (S : FnScope ["self", x] ["self", x] scope) (no : PySem.W.findIn K (.ref C) f = some none) (hb : NoxOk P wd K mg base ["self", x] qual scope fI body (tB1 K t f)) : FnOk P wd K mg base CX0 1 fI fd ["self", x] (spX K C [f]) := by
  refine F.ok S (fun vs H Q E ⟨a, ys, e, l, _⟩ => by rw [e]; simpa using l) fun cdv A outer s H vs Q E hr ⟨a, ys, e, l, T, ea, q⟩ => ⟨_, PSs.nox (hb cdv A outer s H E), ?_⟩
  obtain ⟨v, rfl⟩ : ∃ v, ys = [v] := by
    cases ys with
    | nil => cases l
    | cons v r => cases r with
      | nil => exact ⟨v, rfl⟩
      | cons _ _ => cases l
  subst e
  exact ⟨_, rfl, a, C, [.str t], rfl, show 1 ≤ 1000 by decide, T, ea, _, rfl, _, rfl, a, C, rfl, T, no, .inl ⟨ea, fun d hd hne => q d hd hne⟩⟩
theorem init2_of (F : FunD K nm qual params body scope [] [] fI fd) (S : FnScope ["self", x, y] ["self", x, y] scope) (no : PySem.W.findIn K (.ref C) f = some none) (no2 : PySem.W.findIn K (.ref C) g = some none) (hb : NoxOk P wd K mg base ["self", x, y] qual scope fI body (tB2 K t f g)) : FnOk P wd K mg base CX0 1 fI fd ["self", x, y] (spX K C [f, g]) := by
  refine F.ok S (fun vs H Q E ⟨a, ys, e, l, _⟩ => by rw [e]; simpa using l) fun cdv A outer s H vs Q E hr ⟨a, ys, e, l, T, ea, q⟩ => ⟨_, PSs.nox (hb cdv A outer s H E), ?_⟩
  obtain ⟨v, w, rfl⟩ : ∃ v w, ys = [v, w] := by
    match ys, l with
    | [v, w], _ => exact ⟨v, w, rfl⟩
  subst e
  refine ⟨_, rfl, a, C, [.str t], rfl, show 1 ≤ 1000 by decide, T, ea, _, rfl, _, rfl, a, C, rfl, T, no, .inl ⟨ea, fun d hd hne => ?_⟩⟩
  refine ⟨_, rfl, _, rfl, a, C, rfl, T, no2, .inr ⟨d, [(f, v)], upd_same, by rw [upd_ne hne]; exact upd_same, show 1 ≤ 900 by decide, ?_⟩⟩
  have := q d hd hne
  have eh : upd (upd (upd H d (exd d [(f, v)])) a (exo a C (some d))) d (exd d [(g, w), (f, v)]) = upd (upd H d (exd d [(g, w), (f, v)])) a (exo a C (some d)) := by
    funext b
    by_cases hbd : b = d
    · subst hbd; rw [upd_same, upd_ne hne, upd_same]
    · rw [upd_ne hbd]
      by_cases hba : b = a
      · subst hba; rw [upd_same, upd_same]
      · rw [upd_ne hba, upd_ne hbd, upd_ne hba, upd_ne hbd]
  show Q .non (upd (upd (upd H d (exd d [(f, v)])) a (exo a C (some d))) d (exd d [(g, w), (f, v)]))
  rw [eh]
  exact this
end
end Z
namespace Z
open PySem PySem.Spec PyProof.Rows L2
section
variable {X : Cx} {K : PySem.W.Frag} {pos p p2 pos2 : Pos} {a b : Expr} {wa wb : WE}
/-! ### list(range(..)) -/
theorem rgV_rep {r : List Addr} {H : Hp} (i j : Int) : Reps K r H (rangeD i (j - i).toNat) (rgV i j) := by
  unfold rangeD rgV
  generalize List.range (j - i).toNat = l
  induction l with
  | nil => rfl
  | cons n l ih => exact ⟨_, _, rfl, rfl, ih⟩
def fLR (i j : Int) (ah : AH) (q : QE) : Prop := (-(2 ^ 62) ≤ i ∧ i < 2 ^ 62 ∧ -(2 ^ 62) ≤ j ∧ j < 2 ^ 62 ∧ (j - i).toNat ≤ 2 ^ 24) ∧ newL (rangeD i (j - i).toNat) ah q
def wLR1 (w : WE) : WE := fun env ah q x => w env ah (fun d ah1 => match d with
  | .int j => fLR 0 j ah1 q
  | _ => False) x
def wLR2 (w w2 : WE) : WE := fun env ah q x => w env ah (fun d ah1 => w2 env ah1 (fun d2 ah2 => match d, d2 with
  | .int i, .int j => fLR i j ah2 q
  | _, _ => False) x) x
theorem de_listR1 (hc : X.calm = true) (hg : Gl X "list") (hm : X.mg "list" = none) (hg2 : Gl X "range") (hm2 : X.mg "range" = none) (ha : DE X a wa) (na : starEach [a] X.env = (false, eval a X.env) :: starEach [] X.env := by rfl)
    (nn : starEach [.Call (.Name "range" p2) [a] [] pos2] X.env = (false, eval (.Call (.Name "range" p2) [a] [] pos2) X.env) :: starEach [] X.env := by rfl) : DE X (.Call (.Name "list" p) [.Call (.Name "range" p2) [a] [] pos2] [] pos) (wLR1 wa) := fun W tk =>
  (pe_listRg hc hg hm (prg_1 hg2 hm2 (ha W tk) na) nn).weak fun s H Q ⟨r, env, ah, q, x, he, hh, hw, hq, hx⟩ => by
    refine ⟨r, env, ah, _, x, he, hh, hw, fun d ah1 h1 r1 H1 v k1 hh1 p1 => ?_, hx⟩
    cases d <;> first | exact h1.elim | skip
    exact ⟨_, p1, h1.1, fun p hp => newL_ok hh1 (rgV_rep _ _) h1.2 (hq.step k1) hp⟩
theorem de_listR2 (hc : X.calm = true) (hg : Gl X "list") (hm : X.mg "list" = none) (hg2 : Gl X "range") (hm2 : X.mg "range" = none) (ha : DE X a wa) (hb : DE X b wb) (na : starEach [a, b] X.env = (false, eval a X.env) :: starEach [b] X.env := by rfl)
    (nb : starEach [b] X.env = (false, eval b X.env) :: starEach [] X.env := by rfl) (hp : (backTo pos2 (starEach [b] X.env)).any (·.1) = false := by rfl)
    (nn : starEach [.Call (.Name "range" p2) [a, b] [] pos2] X.env = (false, eval (.Call (.Name "range" p2) [a, b] [] pos2) X.env) :: starEach [] X.env := by rfl) : DE X (.Call (.Name "list" p) [.Call (.Name "range" p2) [a, b] [] pos2] [] pos) (wLR2 wa wb) := fun W tk =>
  (pe_listRg hc hg hm (prg_2 hg2 hm2 (ha W tk) (hb W tk) na nb hp) nn).weak fun s H Q ⟨r, env, ah, q, x, he, hh, hw, hq, hx⟩ => by
    refine ⟨r, env, ah, _, x, he, hh, hw, fun d ah1 h1 r1 H1 v k1 hh1 p1 => ?_, hx⟩
    refine ⟨r1, env, ah1, _, x, he.mono k1, hh1, h1, fun d2 ah2 h2 r2 H2 v2 k2 hh2 p2 => ?_, hx.step k1⟩
    cases d <;> first | (cases d2 <;> first | exact h2.elim | skip) | skip
    exact ⟨_, _, p1, p2, h2.1, fun p hp => newL_ok hh2 (rgV_rep _ _) h2.2 (hq.step (k1.trans k2)) hp⟩
end
end Z
namespace Z
open PySem
/-! digits, plainly -/
def vl (b : Nat) (l : List Nat) : Nat := l.foldl (fun a d => a * b + d) 0
def ds (b n : Nat) : List Nat := if h : n = 0 ∨ b < 2 then [] else ds b (n / b) ++ [n % b]
termination_by n
decreasing_by exact Nat.div_lt_self (by omega) (by omega)
theorem ds_zero (b : Nat) : ds b 0 = [] := by rw [ds]; simp
theorem ds_pos {b n : Nat} (hb : 2 ≤ b) (hn : 0 < n) : ds b n = ds b (n / b) ++ [n % b] := by
  rw [ds, dif_neg (by omega)]
theorem vl_from (b : Nat) : ∀ (l : List Nat) (a : Nat), l.foldl (fun a d => a * b + d) a = a * b ^ l.length + vl b l
  | [], a => by simp [vl]
  | d :: l, a => by
    have h1 := vl_from b l (a * b + d)
    have h2 := vl_from b l (0 * b + d)
    unfold vl
    rw [List.foldl_cons, List.foldl_cons, h1, h2, List.length_cons, Nat.pow_succ, Nat.add_mul, Nat.add_mul]
    have : a * b * b ^ l.length = a * (b ^ l.length * b) := by rw [Nat.mul_assoc, Nat.mul_comm b]
    rw [this]; omega
theorem vl_nil (b : Nat) : vl b [] = 0 := rfl
theorem vl_cons (b d : Nat) (l : List Nat) : vl b (d :: l) = d * b ^ l.length + vl b l := by
  have h := vl_from b l (0 * b + d)
  unfold vl at *
  rw [List.foldl_cons, h]; simp
theorem vl_append (b : Nat) (l m : List Nat) : vl b (l ++ m) = vl b l * b ^ m.length + vl b m := by
  have h := vl_from b m (vl b l)
  unfold vl at *
  rw [List.foldl_append, h]
theorem vl_snoc (b : Nat) (l : List Nat) (d : Nat) : vl b (l ++ [d]) = vl b l * b + d := by
  rw [vl_append]; simp [vl]
theorem vl_lt {b : Nat} : ∀ {l : List Nat}, (∀ d ∈ l, d < b) → vl b l < b ^ l.length
  | [], _ => by simp [vl]
  | d :: l, h => by
    rw [vl_cons, List.length_cons, Nat.pow_succ]
    have h1 := h d (by simp)
    have h2 := vl_lt (l := l) fun x hx => h x (List.mem_cons_of_mem _ hx)
    have h3 : (d + 1) * b ^ l.length ≤ b * b ^ l.length := Nat.mul_le_mul_right _ h1
    rw [Nat.add_mul] at h3
    rw [Nat.mul_comm (b ^ l.length) b]; omega
theorem vl_ds {b : Nat} (hb : 2 ≤ b) : ∀ n : Nat, vl b (ds b n) = n := by
  intro n
  induction n using Nat.strongRecOn with
  | _ n ih =>
    by_cases hn : n = 0
    · subst hn; rw [ds_zero]; rfl
    · rw [ds_pos hb (by omega), vl_snoc, ih (n / b) (Nat.div_lt_self (by omega) (by omega))]
      exact Nat.div_add_mod' n b
theorem ds_lt {b : Nat} (hb : 2 ≤ b) : ∀ n : Nat, ∀ d ∈ ds b n, d < b := by
  intro n
  induction n using Nat.strongRecOn with
  | _ n ih =>
    by_cases hn : n = 0
    · subst hn; rw [ds_zero]; simp
    · rw [ds_pos hb (by omega)]
      intro d hd
      rcases List.mem_append.mp hd with h | h
      · exact ih _ (Nat.div_lt_self (by omega) (by omega)) d h
      · rw [List.mem_singleton.mp h]; exact Nat.mod_lt _ (by omega)
theorem ds_nil {b n : Nat} (hb : 2 ≤ b) (h : ds b n = []) : n = 0 := by
  have := vl_ds hb n
  rw [h] at this; exact this.symm
theorem ds_vl {b : Nat} (hb : 2 ≤ b) : ∀ (l : List Nat), (∀ d ∈ l, d < b) → (∀ h t, l = h :: t → h ≠ 0) → ds b (vl b l) = l := by
  intro l
  generalize hk : l.length = k
  induction k generalizing l with
  | zero => intro _ _; rw [List.eq_nil_of_length_eq_zero hk]; exact ds_zero b
  | succ k ih =>
    intro h1 h2
    rcases List.eq_nil_or_concat l with e | ⟨m, d, e⟩
    · rw [e] at hk; simp at hk
    · rw [List.concat_eq_append] at e
      subst e
      have hm : ∀ x ∈ m, x < b := fun x hx => h1 x (List.mem_append_left _ hx)
      have hd : d < b := h1 d (by simp)
      have hl : m.length = k := by simp at hk; exact hk
      have i := ih m hl hm (fun h t e => h2 h (t ++ [d]) (by rw [e]; rfl))
      rw [vl_snoc]
      have e1 : (vl b m * b + d) / b = vl b m := by
        rw [Nat.mul_comm, Nat.mul_add_div (by omega), Nat.div_eq_of_lt hd, Nat.add_zero]
      have e2 : (vl b m * b + d) % b = d := by
        rw [Nat.mul_comm, Nat.mul_add_mod, Nat.mod_eq_of_lt hd]
      have pos : 0 < vl b m * b + d := by
        cases m with
        | nil =>
          have := h2 d [] rfl
          simp [vl]; omega
        | cons y ys =>
          have hy := h2 y (ys ++ [d]) rfl
          have : 0 < vl b (y :: ys) := by
            rw [vl_cons]
            have : 0 < y * b ^ ys.length := Nat.mul_pos (by omega) (Nat.pow_pos (by omega))
            omega
          have : 0 < vl b (y :: ys) * b := Nat.mul_pos this (by omega)
          omega
      rw [ds_pos hb pos, e1, e2, i]
theorem ds_head {b n : Nat} (hb : 2 ≤ b) : ∀ h t, ds b n = h :: t → h ≠ 0 := by
  induction n using Nat.strongRecOn with
  | _ n ih =>
    intro h t e
    by_cases hn : n = 0
    · subst hn; rw [ds_zero] at e; cases e
    · rw [ds_pos hb (by omega)] at e
      cases hq : ds b (n / b) with
      | nil =>
        rw [hq] at e
        cases e
        have h0 := ds_nil hb hq
        intro z
        have := Nat.div_add_mod' n b
        rw [h0, z] at this
        omega
      | cons y ys =>
        rw [hq, List.cons_append] at e
        have e' := (List.cons.inj e).1
        rw [← e']
        exact ih (n / b) (Nat.div_lt_self (by omega) (by omega)) y ys hq
theorem vl_split {b : Nat} (hb : 2 ≤ b) {l m : List Nat} (hm : ∀ d ∈ m, d < b) : vl b (l ++ m) / b ^ m.length = vl b l ∧ vl b (l ++ m) % b ^ m.length = vl b m := by
  have p : 0 < b ^ m.length := Nat.pow_pos (by omega)
  rw [vl_append, Nat.mul_comm]
  exact ⟨by rw [Nat.mul_add_div p, Nat.div_eq_of_lt (vl_lt hm), Nat.add_zero], by rw [Nat.mul_add_mod, Nat.mod_eq_of_lt (vl_lt hm)]⟩
theorem ds_len {b n : Nat} (hb : 2 ≤ b) : n < b ^ (ds b n).length := by
  have := vl_lt (ds_lt hb n)
  rwa [vl_ds hb] at this
/-- same length: the order of the signs is the order of the values -/
theorem lex_iff {b : Nat} (hb : 2 ≤ b) : ∀ {l m : List Nat}, l.length = m.length → (∀ d ∈ l, d < b) → (∀ d ∈ m, d < b) → (l.map (48 + ·) < m.map (48 + ·) ↔ vl b l < vl b m)
  | [], [], _, _, _ => by simp [vl]
  | x :: l, y :: m, h, h1, h2 => by
    have hl : l.length = m.length := by simpa using h
    have l1 : ∀ d ∈ l, d < b := fun d hd => h1 d (List.mem_cons_of_mem _ hd)
    have l2 : ∀ d ∈ m, d < b := fun d hd => h2 d (List.mem_cons_of_mem _ hd)
    have ih := lex_iff hb hl l1 l2
    have b1 := vl_lt l1
    have b2 := vl_lt l2
    rw [vl_cons, vl_cons, hl, List.map_cons, List.map_cons, List.cons_lt_cons_iff]
    rw [hl] at b1
    rcases Nat.lt_trichotomy x y with c | c | c
    · have : (x + 1) * b ^ m.length ≤ y * b ^ m.length := Nat.mul_le_mul_right _ c
      rw [Nat.add_mul] at this
      constructor
      · intro _; omega
      · intro _; left; omega
    · subst c
      constructor
      · rintro (z | ⟨_, z⟩)
        · omega
        · have := ih.mp z; omega
      · intro z; right; exact ⟨rfl, ih.mpr (by omega)⟩
    · have : (y + 1) * b ^ m.length ≤ x * b ^ m.length := Nat.mul_le_mul_right _ c
      rw [Nat.add_mul] at this
      constructor
      · rintro (z | ⟨z, _⟩) <;> omega
      · intro z; omega
/-! digits as a text -/
def dg (l : List Nat) : Str := ⟨(l.map (48 + ·)).toArray⟩
theorem dg_len (l : List Nat) : (dg l).length = l.length := by simp [dg, Str.length]
theorem dg_cps (l : List Nat) : (dg l).cps.toList = l.map (48 + ·) := by simp [dg]
theorem str_ext {a b : Str} (h : a.cps.toList = b.cps.toList) : a = b := by
  obtain ⟨⟨x⟩⟩ := a; obtain ⟨⟨y⟩⟩ := b; cases h; rfl
theorem dg_append (l m : List Nat) : dg l ++ dg m = dg (l ++ m) := by
  apply str_ext
  show ((dg l).cps ++ (dg m).cps).toList = _
  rw [Array.toList_append, dg_cps, dg_cps, dg_cps, List.map_append]
theorem dg_inj {l m : List Nat} (h : dg l = dg m) : l = m := by
  have := congrArg (fun s : Str => s.cps.toList) h
  simp only [dg_cps] at this
  exact (List.map_inj_right (fun a b e => by omega)).mp this
end Z
namespace Z
open PySem PySem.Spec PyProof.Rows L2
/-! ### a lambda is made -/
/-- what the making does to the tracked heap: the table at P may grow, the code object at c is known -/
structure TabStep (r : List Addr) (H H1 : Hp) (P : Addr) (q : Str) (c : Addr) : Prop where
  cr : c ∉ r
  co : H1 c = some (LamX.CodeO c q)
  tab : TabR r H1 P q
  gr : ∃ ps more, H P = some (.tbl ps) ∧ H1 P = some (.tbl (ps ++ more))
  out : ∀ b o, b ≠ P → H b = some o → H1 b = some o
  new : ∀ b, H b = none → b = c ∨ H1 b = none
section
variable {K : PySem.W.Frag} {r : List Addr} {H H1 : Hp} {P c : Addr} {q : Str} {ah : AH}
theorem TabStep.kp (t : TabStep r H H1 P q c) : Kp K r H r H1 := by
  obtain ⟨ps, more, hP, hP1⟩ := t.gr
  have nP : ∀ b o, H b = some o → (∀ z, o ≠ .tbl z) → b ≠ P := fun b o e n z => by rw [z, hP] at e; exact n ps (Option.some.inj e).symm
  refine ⟨fun _ _ h => h, fun a xs h => ?_, fun a xs h => ?_, fun b o _ e n => t.out b o (nP b o e n) e, fun _ h => .inl h, fun b z e => ?_⟩
  · rcases h with (h | ⟨o, h⟩) | h
    · exact .inl (.inl (t.out _ _ (nP _ _ h (by simp)) h))
    · exact .inl (.inr ⟨o, t.out _ _ (nP _ _ h (by simp)) h⟩)
    · exact .inr h
  · rcases h with ⟨o, h⟩ | h
    · exact .inl ⟨o, t.out _ _ (nP _ _ h (by simp)) h⟩
    · exact .inr h
  · by_cases hb : b = P
    · subst hb; rw [hP] at e; cases e; exact ⟨more, hP1⟩
    · exact ⟨#[], by rw [t.out b _ hb e]; simp⟩
theorem TabStep.hrep (t : TabStep r H H1 P q c) (hq : q = tq K P) (hh : HRep K r H ah) : HRep K r H1 ah := by
  obtain ⟨ps, more, hP, hP1⟩ := t.gr
  refine ⟨hh.len, hh.nd, fun n a o e1 e2 => ?_, fun b z e => ?_, te_of hh.te (t.kp (K := K)).tb⟩
  · have h := hh.ob n a o e1 e2
    obtain ⟨u, hu, _, _, _, nt⟩ := h.has
    refine h.keep t.kp ((t.out a u (fun z => ?_) hu).trans hu.symm)
    rw [z, hP] at hu
    exact nt ps (Option.some.inj hu).symm
  · by_cases hb : b = P
    · subst hb; rw [← hq]; exact t.tab
    · have hH : H b = some (.tbl z) := by
        cases hx : H b with
        | none =>
          rcases t.new b hx with y | y
          · subst y; rw [t.co] at e; exact (LamX.codeO_ne z (Option.some.inj e)).elim
          · rw [y] at e; cases e
        | some o => rw [t.out b o hb hx] at e; exact e
      refine (hh.tb b z hH).keep ((t.out b _ hb hH).trans hH.symm) fun c' g1 g2 => ⟨g1, t.out _ _ (fun y => ?_) g2⟩
      rw [y, hP] at g2
      exact LamX.codeO_ne ps (Option.some.inj g2).symm
end
section
variable {X : Cx} {pins : List (Addr × Obj)} {σ : L2.St} {H : Hp} {s : Shared} {r : List Addr} {c P : Addr} {params : Arguments} {body : Expr} {scope : Scope} {pos : Pos} {fl : Nat} {E : Value → Shared → Prop} {Q : Value → Shared → Prop}
abbrev lamQ (X : Cx) : Str := X.env.qual ++ "<lambda>"
abbrev lamObj (X : Cx) (params : Arguments) (body : Expr) (scope : Scope) (dV doc pm : Value) (c' : Addr) (ctv : Value) : Obj := PySem.W.kdv_obj "<lambda>" (lamQ X) params (.expr body) scope (cloFrom X.env.cells scope.names []) dV doc pm c' ctv
theorem lam_tail {dV : Value} (I : Inv X pins σ H s) (TB : LamX.TabB X.base X.mg c P) (hcode : X.env.code = .ref c) (hr : ∀ b, H b = none → b ∉ r) (hT : TabR r H P (lamQ X)) (hfree : ∀ y ∈ scope.names, y.2 = .free → ∃ c, X.env.cells.lookup y.1 = some c)
    (h : ∀ (f c' : Addr) (doc pm ctv : Value) (H1 : Hp) (s' : Shared), Inv X pins σ H1 s' → TabStep r H H1 P (lamQ X) c' → s'.heap.get? f = some (lamObj X params body scope dV doc pm c' ctv) → H1 f = none → f ∉ frs X.stack → (∀ b o, b ≠ P → s.heap.get? b = some o → s'.heap.get? b = some o) → Q (.ref f) s') :
    wpAny (model X.prog X.w) X.A (makeTail "<lambda>" (lamQ X) params (.expr body) scope X.env dV .none none pos fl) Q E s := by
  obtain ⟨ps, hP, ht, ha⟩ := hT
  have bP : s.heap.BuiltinsAt X.mg P := TB.bm.keeps I.bk
  have oP : s.heap.get? P = some { cls := .none, data := .fields ps } := I.hok P _ hP
  have off : ∀ f, s.heap.objs.size ≤ f → f ∉ frs X.stack := fun f hf z => by
    rcases List.mem_cons.mp (I.stkSub _ z) with y | y
    · have hlt := I.lt
      rw [← y] at hlt
      exact absurd hf (Nat.not_le_of_lt hlt)
    · exact I.nofs hf y
  cases hc : codeAmong pos ps.toList with
  | none =>
    refine PySem.W.kdv_makeTail (mg := X.mg) (ps := ps) (closure_ok hfree) I.ok.glob (I.mod.glob.keeps I.bk) hcode (TB.code.keeps I.bk) oP ht hc TB.gP bP fun c' ctv doc h' tk hx hge hlt hrec htb => ?_
    obtain ⟨c2, oc, vs, t, e2, hoc, hd, hv⟩ := hrec
    cases e2
    have sz : s.heap.objs.size ≤ h'.objs.size := by omega
    have nC : H c' = none := I.hok.fresh hge
    have nPc : P ≠ c' := ne_of_none hP nC
    have J := LamX.inv_table (t' := tk) (more := #[rawInt pos.line, rawInt pos.col, .ref c']) (h' := h'.push (lamObj X params body scope dV doc ((X.mg "__name__").getD .none) c' ctv)) I hP (fun b o hb e => Heap.get?_push_of_some _ (hx b o hb e)) (Heap.get?_push_of_some _ htb) hge ⟨oc, vs, t, Heap.get?_push_of_some _ hoc, hd, hv⟩
    have at_ : ∀ b, b ≠ P → b ≠ c' → upd (upd H P (.tbl (ps ++ #[rawInt pos.line, rawInt pos.col, .ref c']))) c' (LamX.CodeO c' (lamQ X)) b = H b := fun b g1 g2 => by rw [upd_ne g2, upd_ne g1]
    have oP1 : upd (upd H P (.tbl (ps ++ #[rawInt pos.line, rawInt pos.col, .ref c']))) c' (LamX.CodeO c' (lamQ X)) P = some (.tbl (ps ++ #[rawInt pos.line, rawInt pos.col, .ref c'])) := by rw [upd_ne nPc, upd_same]
    have eL : (ps ++ #[rawInt pos.line, rawInt pos.col, .ref c']).toList = ps.toList ++ [rawInt pos.line, rawInt pos.col, .ref c'] := by simp
    have out : ∀ b o, b ≠ P → H b = some o → upd (upd H P (.tbl (ps ++ #[rawInt pos.line, rawInt pos.col, .ref c']))) c' (LamX.CodeO c' (lamQ X)) b = some o := fun b o g1 g2 => by rw [at_ b g1 (ne_of_none g2 nC)]; exact g2
    refine h h'.objs.size c' doc ((X.mg "__name__").getD .none) ctv _ _ J ⟨hr _ nC, upd_same, ⟨_, oP1, by rw [eL]; exact PySem.TriplesOk_snoc _ _ _ _ ht, fun p' cv hcv => ?_⟩, ⟨ps, _, hP, oP1⟩, out, fun b hb => ?_⟩ (Heap.get?_push_size _ rfl) ?_ (off _ sz) fun b o hb e => Heap.get?_push_of_some _ (hx b o hb e)
    · rw [eL] at hcv
      rcases LamX.among_app _ ht hcv with z | z
      · obtain ⟨c0, g1, g2, g3⟩ := ha p' cv z
        exact ⟨c0, g1, g2, out _ _ (fun y => by rw [y, hP] at g3; exact LamX.codeO_ne ps (Option.some.inj g3).symm) g3⟩
      · exact ⟨c', z, hr _ nC, upd_same⟩
    · by_cases hbc : b = c'
      · exact .inl hbc
      · exact .inr (by rw [at_ b (fun z => by rw [z, hP] at hb; cases hb) hbc]; exact hb)
    · have n2 : h'.objs.size ≠ P := (Nat.ne_of_lt (Nat.lt_of_lt_of_le (Heap.lt_size oP) sz)).symm
      rw [at_ _ n2 (Nat.ne_of_lt hlt).symm]
      exact I.hok.fresh sz
  | some cv =>
    obtain ⟨c', g1, g2, g3⟩ := ha pos cv hc
    subst g1
    refine PySem.W.kdv_makeTailHit (mg := X.mg) (ps := ps) (closure_ok hfree) I.ok.glob (I.mod.glob.keeps I.bk) hcode (TB.code.keeps I.bk) oP ht hc bP fun ctv doc h' tk hx hsz => ?_
    have J : Inv X pins σ H { s with heap := h'.push (lamObj X params body scope dV doc ((X.mg "__name__").getD .none) c' ctv), toks := tk } := I.kept fun b o e => Heap.get?_push_of_some _ (hx b o e)
    exact h h'.objs.size c' doc ((X.mg "__name__").getD .none) ctv H _ J ⟨g2, g3, ⟨ps, hP, ht, ha⟩, ⟨ps, #[], hP, by rw [hP]; simp⟩, fun b o _ e => e, fun b e => .inr e⟩ (Heap.get?_push_size _ rfl) (I.hok.fresh hsz) (off _ hsz) fun b o _ e => Heap.get?_push_of_some _ (hx b o e)
end
end Z
namespace Z
open PySem PySem.Spec PyProof.Rows L2
/-! ### a lambda's names: captured ones, globals, and parameters that are no names of its maker -/
structure LamZ (N : List Str) (sc scope : Scope) : Prop where
  kind : scope.kind = .function
  co : scope.isCoroutine = false
  gen : scope.isGenerator = false
  own : ∀ y ∈ scope.names, y.2 ≠ .cell ∧ (y.2 = .local → y.1 ∉ N)
  free : ∀ y ∈ scope.names, y.2 = .free → sc.names.lookup y.1 = some .cell ∨ sc.names.lookup y.1 = some .free
def lamZB (N : List Str) (sc scope : Scope) : Bool :=
  (decide (scope.kind = .function) && (!scope.isCoroutine && !scope.isGenerator)) && scope.names.all fun y => (!decide (y.2 = .cell) && (!decide (y.2 = .local) || !decide (y.1 ∈ N))) && (!decide (y.2 = .free) || (decide (sc.names.lookup y.1 = some .cell) || decide (sc.names.lookup y.1 = some .free)))
theorem lamZ_by {N : List Str} {sc scope : Scope} (h : lamZB N sc scope = true) : LamZ N sc scope := by
  unfold lamZB at h
  simp only [Bool.and_eq_true, Bool.or_eq_true, Bool.not_eq_true', decide_eq_true_eq, decide_eq_false_iff_not, List.all_eq_true] at h
  obtain ⟨⟨h1, h2, h3⟩, h4⟩ := h
  refine ⟨h1, h2, h3, fun y hy => ⟨(h4 y hy).1.1, fun e => ?_⟩, fun y hy e => ?_⟩
  · exact (h4 y hy).1.2.resolve_left fun z => z e
  · exact (h4 y hy).2.resolve_left fun z => z e
section
variable {X : Cx} {pins : List (Addr × Obj)} {σ : L2.St} {H HZ : Hp} {s s1 : Shared} {scope : Scope}
theorem LamZ.has (L : LamZ X.N X.env.scope scope) (ok : X.Ok) (y : Str × NameKind) (hy : y ∈ scope.names) (e : y.2 = .free) : ∃ c, X.env.cells.lookup y.1 = some c :=
  (L.free y hy e).elim (fun k => ok.has _ (.inl k)) fun k => ok.has _ (.inr k)
theorem lamZ_start {A : Around} {outer : List Env} {E : XK} {f c' : Addr} {h1 : Heap} {tk : Nat} {binds : List (Str × Value)} (I : Inv X pins σ H s) (L : LamZ X.N X.env.scope scope) (e0 : Env0 X.prog X.w X.K X.mg X.base A outer s1 HZ) (hd : A.handled = none)
    (un : Un (frs X.stack) [] H HZ s.heap s1.heap) (hns : h1.Ns s1.heap.objs.size fun y => binds.reverse.lookup y) (kp : ∀ b o, s1.heap.get? b = some o → h1.get? b = some o) :
    Inv (LamX.lamCx X A outer s1 HZ E scope f c') [] σ HZ { s1 with heap := h1, toks := tk } := by
  have up : ∀ {y c}, (cloFrom X.env.cells scope.names []).lookup y = some c → X.env.cells.lookup y = some c := fun {y c} e => by
    rcases cloFrom_mem (PySem.mem_of_lookup e) with z | ⟨z1, z2⟩
    · cases z
    · obtain ⟨c1, hc⟩ := L.has I.ok _ z1 rfl
      have hc' : X.env.cells.lookup y = some c1 := hc
      rw [hc']
      congr 1
      rw [z2, hc']
      rfl
  have down : ∀ {y}, scope.names.lookup y = some .free → ∃ c, (cloFrom X.env.cells scope.names []).lookup y = some c := fun {y} hl =>
    mem_lookup (cloFrom_has (cells := X.env.cells) (acc := []) (show (y, NameKind.free) ∈ scope.names from PySem.mem_of_lookup hl))
  have still : ∀ {c : Addr} {v : Option Value}, H c = none → s.heap.IsCell c v → h1.IsCell c v := fun {c v} n ⟨o, ho, hdt⟩ => by
    obtain ⟨sl, w⟩ := un.any ho n (by simp)
    exact ⟨_, kp _ _ w, hdt⟩
  have noX : ∀ b : Addr, b ∉ (LamX.lamCx X A outer s1 HZ E scope f c').ex := fun b z => nomatch (show b ∈ ([] : List Addr) from z)
  refine ⟨⟨e0.mod, L.kind, rfl, rfl, Nat.le_refl _, fun y z c w1 w2 => I.ok.inj y z c (up w1) (up w2), fun y hy => ?_, (fun y c z _ => nomatch (show false = true from z)), fun _ => hd, Around.frames_deeper e0.frames, .inr ⟨rfl, rfl⟩, fun b z => absurd z (noX b), e0.bs, e0.bsz, fun b _ _ => noX b, fun b z => absurd z (noX b), e0.funs, e0.frf⟩,
    rfl, e0.bare, Un.kept kp, ⟨_, hns, fun i y v w1 w2 w3 => ?_⟩, fun y c w => ?_, e0.hok.fresh (Nat.le_refl _), fun y c w => ?_, (fun p hp => nomatch (show p ∈ ([] : List (Addr × Obj)) ++ [] from hp)), e0.hok.kept kp, I.len⟩
  · rcases (show scope.names.lookup y = some .cell ∨ scope.names.lookup y = some .free from hy) with z | z
    · exact absurd rfl (L.own _ (PySem.mem_of_lookup z)).1
    · exact down z
  · rcases (show Vis scope y from w3) with k | k | k
    · exact absurd (List.mem_of_getElem? w1) ((L.own _ (PySem.mem_of_lookup k)).2 rfl)
    · exact absurd rfl (L.own _ (PySem.mem_of_lookup k)).1
    · obtain ⟨m, _, hl⟩ := I.loc
      have hv : Vis X.env.scope y := (L.free _ (PySem.mem_of_lookup k) rfl).elim (fun z => .inr (.inl z)) fun z => .inr (.inr z)
      obtain ⟨u, ru, w⟩ := hl i y v w1 w2 hv
      obtain ⟨c2, g2⟩ := down k
      refine ⟨u, ru, .inr ⟨.inr k, c2, g2, ?_⟩⟩
      have g1 := up g2
      rcases w with ⟨z, _⟩ | ⟨_, c3, z1, z2⟩
      · have z' : X.env.scope.names.lookup y = some .local := z
        rcases L.free _ (PySem.mem_of_lookup k) rfl with k2 | k2 <;> rw [show X.env.scope.names.lookup y = _ from k2] at z' <;> cases z'
      · rw [g1] at z1
        cases z1
        exact still (I.freeC y _ g1) z2
  · obtain ⟨u, z⟩ := I.cell y c (up w)
    exact ⟨u, still (I.freeC y c (up w)) z⟩
  · obtain ⟨v, o, ho, _⟩ := I.cell y c (up w)
    exact un.free c o ho (I.freeC y c (up w)) (by simp)
/-! ### the lambda's slots, kept with the value -/
def capD : En → List D
  | [] => []
  | o :: l => o.getD .non :: capD l
def capV : En → L2.St → List V
  | o :: l, u :: t => (if o.isSome then u.getD .non else .non) :: capV l t
  | _, _ => []
theorem cap_rep {K : PySem.W.Frag} {r : List Addr} {H : Hp} : ∀ {env : En} {s : L2.St}, ERep K r H env s → Reps K r H (capD env) (capV env s)
  | [], _, h => by cases h; rfl
  | o :: l, _, ⟨u, t, e, h, q⟩ => by
    subst e
    refine ⟨_, _, rfl, ?_, cap_rep q⟩
    cases o with
    | none => exact rfl
    | some d => obtain ⟨v, rfl, p⟩ := h d rfl; exact p
/-- slots that hold at least what the kept ones say -/
def Has0 : En → L2.St → Prop
  | [], s => s = []
  | o :: l, s => ∃ u t, s = u :: t ∧ (o.isSome = true → u.isSome = true) ∧ Has0 l t
theorem has0_of {K : PySem.W.Frag} {r : List Addr} {H : Hp} : ∀ {env : En} {s : L2.St}, ERep K r H env s → Has0 env s
  | [], _, h => h
  | o :: l, _, ⟨u, t, e, h, q⟩ => ⟨u, t, e, fun ho => by
    obtain ⟨d, rfl⟩ := Option.isSome_iff_exists.mp ho
    obtain ⟨v, rfl, _⟩ := h d rfl
    rfl, has0_of q⟩
theorem cap_back {K : PySem.W.Frag} {r : List Addr} {H : Hp} : ∀ {env : En} {s : L2.St}, Has0 env s → Reps K r H (capD env) (capV env s) → ERep K r H env s
  | [], _, h, _ => h
  | o :: l, _, ⟨u, t, e, h, q⟩, w => by
    subst e
    obtain ⟨v, vr, e2, p, w2⟩ := w
    cases e2
    refine ⟨u, t, rfl, fun d hd => ?_, cap_back q w2⟩
    subst hd
    obtain ⟨y, rfl⟩ := Option.isSome_iff_exists.mp (h rfl)
    exact ⟨y, rfl, p⟩
end
end Z
namespace Z
open PySem PySem.Spec PyProof.Rows L2
abbrev lamFd (X : Cx) (params : Arguments) (body : Expr) (scope : Scope) (dV doc pm : Value) (c' : Addr) (ctv : Value) : FuncData := PySem.W.kdv_fn "<lambda>" (lamQ X) params (.expr body) scope (cloFrom X.env.cells scope.names []) dV doc pm (.ref c') ctv
/-- called without arguments at any later moment, its own names are bound -/
def Bnd (X : Cx) (H : Hp) (s : Shared) (scope : Scope) (fd : FuncData) : Prop :=
  ∀ s1 : Shared, (∀ b o, s.heap.get? b = some o → H b = none → b ∉ frs X.stack → s1.heap.get? b = some o) → ∃ binds, BindsTo s1 fd ⟨[], []⟩ binds ∧ ∀ y ∈ binds, scope.names.lookup y.1 = some .local
def wAct (i : Nat) (d : D) (env : En) (wb : WE) : WE := fun env' ah q x => gt env' i = some d ∧ wb env ah q x
section
variable {X : Cx} {pins : List (Addr × Obj)} {σ : L2.St} {H : Hp} {s : Shared} {r : List Addr} {c' f g : Addr} {params : Arguments} {body : Expr} {scope sg : Scope} {CXg : CXT} {Eg : XK} {Ng : List Str} {qg a : Str} {cdg dV doc pm ctv : Value} {k i : Nat} {pn : List (Addr × Obj)} {xe : Value → Shared → Prop} {p1 p2 : Pos} {env : En} {wb : WE}
theorem de_act (I : Inv X pins σ H s) (L : LamZ X.N X.env.scope scope) (hf : s.heap.get? f = some (lamObj X params body scope dV doc pm c' ctv)) (hfn : H f = none) (hfr : f ∉ frs X.stack) (hb : Bnd X H s scope (lamFd X params body scope dV doc pm c' ctv))
    (he : ERep X.K r H env σ) (hr : RoomG (k + 1) (X.A.deeper (envOfC qg sg s.heap.objs.size g cdg)))
    (hbody : ∀ (A : Around) (outer : List Env) (s : Shared) (H : Hp) (E : XK), RoomG k (A.deeper (LamX.lamEnv X scope s.heap.objs.size f c')) → DE (LamX.lamCx X A outer s H E scope f c') body wb)
    (hN : Ng[i]? = some a) (hv : Vis sg a) (hd : (a == ("__debug__" : Str)) = false := by decide) (hcd : (a == ("__classdict__" : Str)) = false := by decide) :
    DE ((cxOf CXg X.prog X.w X.K X.mg X.base Ng qg sg g cdg X.A X.stack s H Eg).tr pn xe) (.Call (.Name a p1) [] [] p2) (wAct i (.fn f c' (lamQ X) (capD env) (capV env σ)) env wb) := fun W tk => by
  refine ⟨fun pinsZ sZ σZ HZ Q IZ ⟨rr, env', ah, q, x, he', hh, ⟨hg, hw⟩, hq, hx⟩ => ?_⟩
  obtain ⟨v, hs, ev, hcr, hc, hcap⟩ := he'.get hg
  subst ev
  have heZ : ERep X.K rr HZ env σ := cap_back (has0_of he) hcap
  refine wpAny_Call_Name_kw (thn ((pe_var (pos := p1) (i := i) hN hv hd hcd).run pinsZ sZ σZ HZ (fun v H1 => v = .ref f ∧ H1 = HZ) IZ ⟨.ref f, hs, rfl, rfl⟩) fun u s1 ⟨v, H1, I1, r1, q1⟩ => ?_)
  obtain ⟨ev, eH⟩ := q1
  subst ev
  rw [eH] at I1
  obtain rfl : u = Value.ref f := r1
  have keep : ∀ b o, s.heap.get? b = some o → H b = none → b ∉ frs X.stack → s1.heap.get? b = some o := fun b o g1 g2 g3 => I1.base.keep b o g1 g2 g3 (fun z => nomatch (show b ∈ ([] : List Addr) from z))
  have of1 := keep f _ hf hfn hfr
  refine PySem.W.callWith_F0 ⟨_, _, _, _, of1⟩ ?_
  have un : Un (frs X.stack) [] H HZ s.heap s1.heap := I1.base
  obtain ⟨⟨oc, vs, t, hoc, hdc, hvc⟩, _, _⟩ := I1.hok c' _ hc
  obtain ⟨binds, hbt, hloc⟩ := hb s1 keep
  have rc : codeAny (model X.prog X.w) (X.A.deeper (envOfC qg sg s.heap.objs.size g cdg)) (.call (.ref f) ⟨[], []⟩) (CR (L2.CX X.prog X.w) (envOfC qg sg s.heap.objs.size g cdg :: X.stack) X.prog X.w HZ s1 Q (fun c d H' => W c d σZ H')) s1 := by
    refine PySem.W.kla_callFunE hr.room.depth of1 rfl L.co L.gen rfl ⟨c', oc, vs, t, rfl, hoc, hdc, hvc⟩ ?_
    refine hbt _ _ _ _ (wpAny_newFunctionEnv (fun y hy => (L.own y hy).1) hloc (fun h1 hns hsb => ⟨I1.nolimit.fresh _ hsb, ?_⟩) L.kind)
    show codeAny _ _ (.expr body (LamX.lamEnv X scope s1.heap.objs.size f c')) _ _
    have kp : ∀ b o, s1.heap.get? b = some o → h1.get? b = some o := fun b o e => hsb.extBut b o (Nat.ne_of_lt (Heap.lt_size e)) (Heap.get?_push_of_some _ e)
    have J := lamZ_start (E := fun c d H' => W c d σZ H') (f := f) (c' := c') (tk := s1.toks + binds.length) I L I1.env0 hr.room.hd un hns kp
    have hB := hbody (X.A.deeper (envOfC qg sg s.heap.objs.size g cdg)) (envOfC qg sg s.heap.objs.size g cdg :: X.stack) s1 HZ (fun c d H' => W c d σZ H') ⟨hr.room.deeper _, hr.gd⟩ _ (takes_of rfl rfl rfl rfl)
    refine PySem.W.kla_codeExpr (wpAny_mono (hB.run [] _ _ HZ Q J ⟨rr, env, ah, q, x, heZ, hh, hw, hq, hx⟩) (fun v s' hq => ?_) fun e s' hq => hq)
    obtain ⟨w', H', J', rv, q⟩ := hq
    exact ⟨w', H', J'.os, J'.bare, J'.base, J'.hok, rv, q⟩
  refine wpAny_call (codeAny_mono rc fun rs s' hq => ?_)
  cases rs with
  | error e => exact tk e s' (XE.of_call I1 (fun cls d H' h => h) hq)
  | ok fl =>
    cases fl with
    | ret u => exact I1.after hq
    | next => exact False.elim hq
    | brk => exact False.elim hq
    | cont => exact False.elim hq
end
end Z
namespace Z
open PySem PySem.Spec PyProof.Rows L2
/-- what is known of a lambda that was made -/
def Made (X : Cx) (pins : List (Addr × Obj)) (σ : L2.St) (r : List Addr) (H : Hp) (P : Addr) (params : Arguments) (body : Expr) (scope : Scope) (Q : Value → Shared → Prop) : Prop :=
  ∀ (f c' : Addr) (dV doc pm ctv : Value) (H1 : Hp) (s' : Shared), Inv X pins σ H1 s' → TabStep r H H1 P (lamQ X) c' → s'.heap.get? f = some (lamObj X params body scope dV doc pm c' ctv) → H1 f = none → f ∉ frs X.stack → Bnd X H1 s' scope (lamFd X params body scope dV doc pm c' ctv) → Q (.ref f) s'
/-- how a lambda is evaluated: r and the table are known -/
def Makes (X : Cx) (c P : Addr) (params : Arguments) (body : Expr) (scope : Scope) (pos : Pos) : Prop :=
  ∀ (pins : List (Addr × Obj)) (σ : L2.St) (H : Hp) (s : Shared) (r : List Addr) (Q : Value → Shared → Prop), Inv X pins σ H s → (∀ b, H b = none → b ∉ r) → TabR r H P (lamQ X) → Made X pins σ r H P params body scope Q → wpAny (model X.prog X.w) X.A (eval (.Lambda params body scope pos) X.env) Q X.xe s
abbrev par0 : Arguments := { posonlyargs := [], args := [], vararg := none, kwonlyargs := [], kw_defaults := [], kwarg := none, defaults := [] }
abbrev par1 (a : Str) (pa : Pos) (z : Int) (kk : Nat) (pc : Pos) : Arguments := { posonlyargs := [], args := [{ arg := a, annotation := none, pos := pa }], vararg := none, kwonlyargs := [], kw_defaults := [], kwarg := none, defaults := [.Constant (.int z) kk pc] }
section
variable {X : Cx} {c P : Addr} {params : Arguments} {body : Expr} {scope : Scope} {pos : Pos}
theorem makes0 (L : LamZ X.N X.env.scope scope) (TB : LamX.TabB X.base X.mg c P) (hcode : X.env.code = .ref c) : Makes X c P par0 body scope pos := by
  intro pins σ H s r Q I hr hT h
  refine PySem.W.kla_eval (by rfl) ?_
  rw [makeFunction_eq]
  simp only [List.zip_nil_right, List.filterMap_nil, List.isEmpty_nil, if_true, pure_bind]
  refine lam_tail I TB hcode hr hT (L.has I.ok) fun f c' doc pm ctv H1 s' I1 t hf hfn hfr _ => h f c' .none doc pm ctv H1 s' I1 t hf hfn hfr fun s1 _ => ⟨[], BindsTo.of_eq rfl, fun y hy => nomatch hy⟩
theorem makes1 {a : Str} {pa pc : Pos} {z : Int} {kk : Nat} (L : LamZ X.N X.env.scope scope) (TB : LamX.TabB X.base X.mg c P) (hcode : X.env.code = .ref c) (hl : scope.names.lookup a = some .local)
    (hb : ∀ (q : Str) (cl : List (Str × Addr)) (doc pm cv ctv : Value) (T : Addr) (v : Value), ∃ k, bindArgs (PySem.W.kdv_fn "<lambda>" q (par1 a pa z kk pc) (.expr body) scope cl (.ref T) doc pm cv ctv) ⟨[], []⟩ = (seqItems? (.ref T) >>= k) ∧ k (some #[v]) = pure [(a, v)]) : Makes X c P (par1 a pa z kk pc) body scope pos := by
  intro pins σ H s r Q I hr hT h
  refine PySem.W.kdv_lam rfl rfl (PySem.W.kdv_all1 (thn ((pe_int (X := X) (i := z) (j := kk) (pos := pc)).run pins s σ H (fun _ H1 => H1 = H) I (show H = H from rfl)) fun v s1 ⟨_, H1, I1, _, e⟩ => PySem.W.kdv_all0 ?_))
  subst e
  rw [makeFunction_eq]
  simp only [List.zip_nil_right, List.filterMap_nil, List.isEmpty_nil, List.isEmpty_cons, if_true, pure_bind, Bool.false_eq_true, if_false]
  refine wpAny_bind (wpAny_newTextTuple ?_)
  have kp : ∀ b o, s1.heap.get? b = some o → (s1.heap.push (PySem.W.kdv_tup [v])).get? b = some o := fun b o e => Heap.get?_push_of_some _ e
  have I2 : Inv X pins σ H1 { s1 with heap := s1.heap.push (PySem.W.kdv_tup [v]) } := I1.kept kp
  have nT : H1 s1.heap.objs.size = none := I1.hok.fresh (Nat.le_refl _)
  have fT : s1.heap.objs.size ∉ frs X.stack := fun z => by
    rcases List.mem_cons.mp (I1.stkSub _ z) with y | y
    · exact absurd (Nat.le_of_eq y) (Nat.not_le_of_lt I1.lt)
    · exact I1.nofs (Nat.le_refl _) y
  have oP : s1.heap.get? P ≠ none := by
    obtain ⟨ps, hP, _, _⟩ := hT
    have := I1.hok P _ hP
    have h2 : s1.heap.get? P = some { cls := .none, data := .fields ps } := this
    rw [h2]; simp
  have nP : s1.heap.objs.size ≠ P := fun z => by
    rw [← z] at oP
    exact oP (Heap.get?_none_of_le (Nat.le_refl _))
  refine lam_tail I2 TB hcode hr hT (L.has I2.ok) fun f c' doc pm ctv H2 s' I3 t hf hfn hfr hk => h f c' (.ref s1.heap.objs.size) doc pm ctv H2 s' I3 t hf hfn hfr fun s4 keep => ?_
  obtain ⟨k, e1, e2⟩ := hb (lamQ X) (cloFrom X.env.cells scope.names []) doc pm (.ref c') ctv s1.heap.objs.size v
  have oT : s'.heap.get? s1.heap.objs.size = some (PySem.W.kdv_tup [v]) := hk _ _ nP (Heap.get?_push_size _ rfl)
  have nT2 : H2 s1.heap.objs.size = none := by
    rcases t.new _ nT with y | y
    · exfalso
      rw [y] at oT
      have := I3.hok c' _ t.co
      obtain ⟨⟨oc, vs, tt, hoc, hdc, hvc⟩, _, _⟩ := this
      rw [oT] at hoc
      cases hoc
      cases hdc
    · exact y
  exact ⟨[(a, v)], BindsTo.of_defaults rfl (keep _ _ oT nT2 fT) rfl e1 e2, fun y hy => by rw [List.mem_singleton.mp hy]; exact hl⟩
end
end Z
namespace Z
open PySem PySem.Spec PyProof.Rows L2
/-- an exception that was caught and is kept -/
def EXO (cls : Value) (dx : Option Addr) (a : Addr) : HO := .ext fun h => ∃ (oe : Obj) (gs : Array Value), h.get? a = some oe ∧ Zc cls dx oe ∧ oe.data = .fields gs
theorem exo_ok {P : Program} {w : World} {H : Hp} {h : Heap} {a : Addr} {cls : Value} {dx : Option Addr} {oe : Obj} {gs : Array Value} (e : h.get? a = some oe) (z : Zc cls dx oe) (d : oe.data = .fields gs) : ObjOk P w H h a (EXO cls dx a) :=
  ⟨⟨oe, gs, e, z, d⟩, ⟨oe, e⟩, fun _ _ ⟨o, g, q, y⟩ k => ⟨o, g, k o q, y⟩⟩
section
variable {X : Cx} {pins : List (Addr × Obj)} {σ : L2.St} {H : Hp} {s : Shared}
/-- an object of the heap that is younger than the entry and not tracked yet -/
theorem inv_track {a : Addr} {oe : Obj} {o : HO} (I : Inv X pins σ H s) (ha : s.heap.get? a = some oe) (hn : H a = none) (n0 : X.s_0.heap.get? a = none) (nL : a ≠ X.env.locals) (nc : ∀ v, oe.data ≠ .cell v) (np : ∀ p ∈ X.pn ++ pins, p.1 ≠ a)
    (ok : ObjOk X.prog X.w (upd H a o) s.heap a o) : Inv X pins σ (upd H a o) s := by
  have ne0 : ∀ b u, X.s_0.heap.get? b = some u → b ≠ a := fun b u e z => by rw [z, n0] at e; cases e
  refine ⟨I.ok, I.os, I.bare, ⟨I.base.keep, I.base.slot, fun b u e n hx => ?_, I.base.there, fun b xs e => ?_, fun b u x e => ?_, fun b ps e => ?_⟩, I.loc, I.cell, ?_, fun y c e => ?_, fun p hp => ?_, HOk.laidN I.hok (fun _ _ q => q) hn ok, I.len⟩
  · rw [upd_ne (ne0 b u e)]; exact I.base.free b u e n hx
  · have q := I.base.tups b xs e
    rw [upd_ne (ne_of_none q hn)]; exact q
  · have q := I.base.frzs b u x e
    rw [upd_ne (ne_of_none q hn)]; exact q
  · obtain ⟨m, q⟩ := I.base.tbls b ps e
    exact ⟨m, by rw [upd_ne (ne_of_none q hn)]; exact q⟩
  · rw [upd_ne (Ne.symm nL)]; exact I.free
  · obtain ⟨v, o', q1, q2⟩ := I.cell y c e
    have hc : c ≠ a := fun z => by rw [z, ha] at q1; cases q1; exact nc v q2
    rw [upd_ne hc]; exact I.freeC y c e
  · obtain ⟨q1, q2, q3⟩ := I.pin p hp
    exact ⟨q1, by rw [upd_ne (np p hp)]; exact q2, q3⟩
theorem fly_push {B h : Heap} {l : List Env} {a : Addr} {Z : Obj → Prop} {t : Obj} (x : HandSPX.FlyingZ B l a Z h) : HandSPX.FlyingZ B l a Z (h.push t) := by
  obtain ⟨k1, k2, k3, oe, vs, T, oT, ts, e1, e2, e3, e4, e5, e6, e7, e8, e9⟩ := x
  exact ⟨fun b o e => Heap.get?_push_of_some _ (k1 b o e), k2, k3.of_keeps fun b o e _ => ⟨o, Heap.get?_push_of_some _ e, rfl⟩, oe, vs, T, oT, ts, Heap.get?_push_of_some _ e1, e2, e3, e4, e5, e6, Heap.get?_push_of_some _ e7, e8, e9⟩
end
/-- what the clause wishes: it is caught, the suite runs, the exception is kept -/
def wKeep (K : PySem.W.Frag) (L : Nat) (cs : List Value) (i : Nat) (ts : TS) (D : Ends) : WX := fun cls d σ H =>
  PySem.W.exmAny K cls cs = some true ∧ ∀ a, H a = none → σ.length = L → ts { nx := fun σ' H' => D.nx (σ'.set i none) (upd H' a (EXO cls d a)), rt := fun _ _ => False } (σ.set i (some (.ref a))) H
section
variable {X : Cx} {x1 x2 x3 x4 n : Str} {c1 c2 c3 c4 : Value} {i kk : Nat} {body suite : List Stmt} {b0 : Stmt} {p1 p2 p3 p4 tp pos pos' : Pos} {tb : WX → TS} {ts : TS}
theorem ps_try_keep (hs : X.stack = X.env :: X.outer) (hf : X.env.frame = some X.env.locals) (hx : X.ex = []) (hN : X.N.Nodup) (hi : X.N[i]? = some n) (hln : X.env.kindOf n = some .local) (h1 : Names X x1 c1) (h2 : Names X x2 c2) (h3 : Names X x3 c3) (h4 : Names X x4 c4)
    (hb : ∀ (W : WX) (pn : List (Addr × Obj)) (xe : Value → Shared → Prop), Takes (X.tr pn xe) W → PSs (X.tr pn xe) body (tb W)) (hsu : ∀ (a : Addr) (pn : List (Addr × Obj)), PSs (X.suite a pn) (b0 :: suite) ts) :
    PS X (.Try body [.ExceptHandler (some (.Tuple [.Name x1 p1, .Name x2 p2, .Name x3 p3, .Name x4 p4] kk tp)) (some n) (b0 :: suite) pos'] [] [] pos) (fun D σ H => tb (wKeep X.K X.N.length [c1, c2, c3, c4] i ts D) D σ H) := by
  refine ⟨fun pins s σ H D I h => ?_⟩
  have ok := I.ok
  refine wpAny_Try_except (wpAny_mono ((hb _ (X.pn ++ pins) _ (fun u s' xx => ?_)).run [] s σ H D (I.toTry _) h) (fun fl s1 q => ?_) fun _ _ z => z)
  · obtain ⟨a, B, sI, pins', σ', H', cls, d, rfl, J', nb, up, sky, na, os, ag, hm, hyes⟩ := xx
    have J : Inv X pins σ' H' sI := J'.ofTry ok
    rw [show (X.tr (X.pn ++ pins) _).stack = X.env :: X.outer from hs] at sky
    refine Sky.land Zc.steady (by rw [ok.frames, hs]) hf sky fun hA fA upA => ?_
    obtain ⟨oA, gA, eA, zA, dA⟩ := fA.there
    have nfr : a ∉ frs (X.env :: X.outer) := fun z => by
      obtain ⟨_, o', e', nf⟩ := fA.2.2.1.mem z
      rw [eA] at e'; cases e'
      exact nf _ dA
    have nL : a ≠ X.env.locals := fun z => nfr (List.mem_filterMap.mpr ⟨X.env, List.mem_cons_self, by rw [hf, z]⟩)
    have nF : a ∉ X.fs := fun z => by
      obtain ⟨e, y1, y2⟩ := List.mem_filterMap.mp z
      exact nfr (List.mem_filterMap.mpr ⟨e, List.mem_cons_of_mem _ y1, y2⟩)
    have noI : ∀ o, sI.heap.get? a ≠ some o := fun o e => by
      have z := nb a o e (by rw [hs]; exact nfr)
      rw [fA.2.1] at z; cases z
    have n0 : X.s_0.heap.get? a = none := by
      cases e : X.s_0.heap.get? a with
      | none => rfl
      | some o =>
        obtain ⟨o', e'⟩ := J.base.there a o e (by rw [hx]; exact fun z => nomatch z)
        exact absurd e' (noI o')
    have np : ∀ p ∈ X.pn ++ pins, p.1 ≠ a := fun p hp z => noI p.2 (by rw [← z]; exact (J.pin p hp).1)
    have JA : Inv X pins σ' H' { s' with heap := hA } := J.landed nb fA.1 (up.trans upA) os ag
    have SA := JA.suite eA dA na nL nF
    refine wpAny_handleBy_cons (codeAny_handlers_test ?_) (by intro q; cases q)
    have LT : PySem.W.Looks (model X.prog X.w) hA (typeOf (.ref a)) cls := fun A Q E s k q => wpAny_typeOf_ref (k _ _ eA) (by rw [zA.1]; exact q)
    have nm : ∀ {x : Str} {c : Value} {p : Pos} {Q E : Value → Shared → Prop}, Names X x c → Q c { s' with heap := hA } → wpAny (model X.prog X.w) (X.A.mark (some (.ref a))) (eval (.Name x p) X.env) Q E { s' with heap := hA } := fun {x c p Q E} hc q => by
      obtain ⟨g1, g2, g3 | ⟨g3, g4, g5⟩⟩ := hc
      · exact ld_glob (X := X.suite a ((a, oA) :: (X.pn ++ pins))) SA g1 g3 q g2
      · exact ld_blt (X := X.suite a ((a, oA) :: (X.pn ++ pins))) SA g1 g3 g4 q g5 g2
    refine wpAny_Tuple (wpAny_items_cons (nm h1 (wpAny_items_cons (nm h2 (wpAny_items_cons (nm h3 (wpAny_items_cons (nm h4 (wpAny_items_nil ⟨by size_fits, ?_⟩)))))))))
    have kp : ∀ q o, hA.get? q = some o → (hA.push { cls := .type "tuple", data := .seq [c1, c2, c3, c4].toArray }).get? q = some o := fun _ _ z => Heap.get?_push_of_some _ z
    refine (PySem.W.exm_tup4 (JA.kIn.keeps kp) (LT.keeps kp) (Heap.get?_push_size hA rfl) hm).here ?_
    refine codeAny_handlers_suite_as (HandSPX.lands_againZ (fly_push fA) fun hB fB upB => ?_)
    have upC : hA.UpToSlots hB := fun b o e nf => upB b o (kp b o e) nf
    have JB : Inv X pins σ' H' { s' with heap := hB } := J.landed nb fB.1 ((up.trans upA).trans upC) os ag
    obtain ⟨oB, gB, eB, zB, dB⟩ := fB.there
    have SB := JB.suite eB dB na nL nF
    refine store_ok (X := X.suite a ((a, oB) :: (X.pn ++ pins))) (v := .ref a) SB hN hi (.inl hln) rfl (fun s5 S5 => ?_) (.inr hln)
    refine wpAny_mono ((hsu a ((a, oB) :: (X.pn ++ pins))).run [] s5 _ H' _ S5 (hyes a na J.len)) (fun fl s6 q => ?_) fun _ _ z => False.elim z
    cases fl with
    | next =>
      obtain ⟨σ6, H6, S6, q6⟩ := q
      obtain ⟨e6, n6, _⟩ := S6.pin (a, oB) (List.mem_append_left _ List.mem_cons_self)
      have J6 : Inv X pins σ6 H6 s6 := S6.unsuite ok
      have T6 : Inv X pins σ6 (upd H6 a (EXO cls d a)) s6 := inv_track J6 e6 n6 n0 nL (fun v z => by rw [show oB.data = _ from dB] at z; cases z) np (exo_ok e6 zB dB)
      exact gone_ok T6 hN hi hln fun s7 J7 => ⟨_, _, J7, q6⟩
    | brk => obtain ⟨_, _, _, z⟩ := q; exact z.elim
    | cont => obtain ⟨_, _, _, z⟩ := q; exact z.elim
    | ret u => obtain ⟨_, _, _, _, _, z⟩ := q; exact z.elim
  · cases fl with
    | next =>
      obtain ⟨σ', H', J', q⟩ := q
      exact wpAny_execs_nil ⟨σ', H', J'.ofTry ok, q⟩
    | brk =>
      obtain ⟨σ', H', J', q⟩ := q
      exact ⟨σ', H', J'.ofTry ok, q⟩
    | cont =>
      obtain ⟨σ', H', J', q⟩ := q
      exact ⟨σ', H', J'.ofTry ok, q⟩
    | ret u =>
      obtain ⟨v, σ', H', J', r, q⟩ := q
      exact ⟨v, σ', H', J'.ofTry ok, r, q⟩
end
end Z
namespace Z
open PySem PySem.Spec PyProof.Rows L2
/-! ### what the text says of the classes that are caught -/
/-- each of Cs is caught by the clause that names cs -/
def CatK (K : PySem.W.Frag) (Cs cs : List Str) : Prop := ∀ C ∈ Cs, PySem.W.exmAny K (.ref (He.ga K C)) (cs.map fun c => .ref (He.ga K c)) = some true
def xCat (Cs cs : List Str) : PySem.W.Frag → Bool := fun K => Cs.all fun C => decide (PySem.W.exmAny K (.ref (He.ga K C)) (cs.map fun c => .ref (He.ga K c)) = some true)
theorem xCat_ok {K : PySem.W.Frag} {Cs cs : List Str} (h : xCat Cs cs K = true) : CatK K Cs cs := fun C hC => of_decide_eq_true (List.all_eq_true.mp h C hC)
/-- isinstance of one of Cs is asked rightly by each of Ds -/
structure KinK (K : PySem.W.Frag) (C D : Str) : Prop where
  cl : (PySem.W.clsIn K (He.ga K C)).isSome = true
  ga : PySem.W.findIn K (.ref (He.ga K C)) "__getattribute__" = some (some (.builtin "BaseException.__getattribute__"))
  gg : PySem.W.findIn K (.ref (He.ga K C)) "__getattr__" = some none
  su : PySem.W.subIn K (.ref (He.ga K C)) (.type "BaseException") = some true
  ca : PySem.W.findIn K (.ref (He.ga K C)) "__class__" = some (some (.builtin "object.__class__"))
  sp : PySem.W.specialIn K (.builtin "object.__class__") "__get__" = some (some (.builtin "getset_descriptor.__get__"))
  tk : PySem.W.takesIn K (.builtin "object.__class__") = some true
  mo : PySem.W.mroIn K (He.ga K C) (.type "object") = some true
  is_ : PySem.W.kitOne K (.ref (He.ga K C)) (.ref (He.ga K D)) = some (decide (C = D))
def kinB (K : PySem.W.Frag) (C D : Str) : Bool :=
  (PySem.W.clsIn K (He.ga K C)).isSome && (He.eqO (PySem.W.findIn K (.ref (He.ga K C)) "__getattribute__") (some (some (.builtin "BaseException.__getattribute__"))) && (He.eqO (PySem.W.findIn K (.ref (He.ga K C)) "__getattr__") (some none) && (decide (PySem.W.subIn K (.ref (He.ga K C)) (.type "BaseException") = some true) &&
    (He.eqO (PySem.W.findIn K (.ref (He.ga K C)) "__class__") (some (some (.builtin "object.__class__"))) && (He.eqO (PySem.W.specialIn K (.builtin "object.__class__") "__get__") (some (some (.builtin "getset_descriptor.__get__"))) && (decide (PySem.W.takesIn K (.builtin "object.__class__") = some true) &&
      (decide (PySem.W.mroIn K (He.ga K C) (.type "object") = some true) && decide (PySem.W.kitOne K (.ref (He.ga K C)) (.ref (He.ga K D)) = some (decide (C = D))))))))))
theorem kinB_ok {K : PySem.W.Frag} {C D : Str} (h : kinB K C D = true) : KinK K C D := by
  unfold kinB at h
  simp only [Bool.and_eq_true] at h
  obtain ⟨h1, h2, h3, h4, h5, h6, h7, h8, h9⟩ := h
  exact ⟨h1, He.eqO_ok h2, He.eqO_ok h3, of_decide_eq_true h4, He.eqO_ok h5, He.eqO_ok h6, of_decide_eq_true h7, of_decide_eq_true h8, of_decide_eq_true h9⟩
def KinKs (K : PySem.W.Frag) (Cs Ds : List Str) : Prop := ∀ C ∈ Cs, ∀ D ∈ Ds, KinK K C D
def xKin (Cs Ds : List Str) : PySem.W.Frag → Bool := fun K => Cs.all fun C => Ds.all fun D => kinB K C D
theorem xKin_ok {K : PySem.W.Frag} {Cs Ds : List Str} (h : xKin Cs Ds K = true) : KinKs K Cs Ds := fun C hC D hD => kinB_ok (List.all_eq_true.mp (List.all_eq_true.mp h C hC) D hD)
/-- each of Cs has an attribute f of its instances -/
def XfK (K : PySem.W.Frag) (Cs : List Str) (f : Str) : Prop := ∀ C ∈ Cs, XfC K (He.ga K C) ∧ PySem.W.findIn K (.ref (He.ga K C)) f = some none
def xXf (Cs : List Str) (f : Str) : PySem.W.Frag → Bool := fun K => Cs.all fun C => (He.eqO (PySem.W.findIn K (.ref (He.ga K C)) "__getattribute__") (some (some (.builtin "BaseException.__getattribute__"))) && (He.eqO (PySem.W.findIn K (.ref (He.ga K C)) "__getattr__") (some none) && (decide (PySem.W.subIn K (.ref (He.ga K C)) (.type "BaseException") = some true) && PySem.W.hasDictIn K (He.ga K C)))) && He.eqO (PySem.W.findIn K (.ref (He.ga K C)) f) (some none)
theorem xXf_ok {K : PySem.W.Frag} {Cs : List Str} {f : Str} (h : xXf Cs f K = true) : XfK K Cs f := fun C hC => by
  have h1 := List.all_eq_true.mp h C hC
  simp only [Bool.and_eq_true] at h1
  obtain ⟨⟨h1, h2, h3, h4⟩, h5⟩ := h1
  exact ⟨⟨He.eqO_ok h1, He.eqO_ok h2, of_decide_eq_true h3, h4⟩, He.eqO_ok h5⟩
/-- the classes that a law asks about -/
abbrev rCs : List Str := ["BadBase", "BadNumber", "BadDigits", "BadRange", "BadRule", "BadReader", "BadManner", "BadEntry", "BadName", "BadText"]
abbrev rDs : List Str := ["BadBase", "BadNumber", "BadDigits", "BadRange", "BadRule", "BadReader", "BadManner", "BadEntry", "BadName", "BadText", "OtherBase", "TooMany", "Missing", "NothingLeft"]
abbrev rVs : List Str := ["BadBase", "BadNumber", "BadDigits", "BadRange", "BadReader", "BadManner", "BadName"]
/-! ### the rules -/
section
variable {X : Cx} {e : Expr} {w : WE} {pos : Pos}
theorem de_gcls {x : Str} (hg : Gl X x) (hm : X.mg x = some (.ref (He.ga X.K x))) (hdb : (x == ("__debug__" : Str)) = false := by decide) : DE X (.Name x pos) (wC (.glo x)) :=
  de_c (pe_glob (v := .ref (He.ga X.K x)) hg hm rfl hdb) fun _ _ => rfl
/-- e.f, e an exception that was kept -/
def wXf (Cs : List Str) (f : Str) (w : WE) : WE := fun env ah q x => w env ah (fun d ah1 => match d with
  | .ref n => (match ah1[n]? with
    | some (.exc C fs) => C ∈ Cs ∧ (match fs.lookup f with
      | some v => q v ah1
      | none => False)
    | _ => False)
  | _ => False) x
theorem inst_of {H : Hp} {h : Heap} {r : List Addr} {P : Program} {wd : World} {K : PySem.W.Frag} {a : Addr} {C : Str} {fs : List (Str × D)} (hok : HOk P wd H h) (o : ORep K r H a (.exc C fs)) : ∃ oe od, PySem.W.InstAt h a oe (He.ga K C) od ∧ ∀ f d, fs.lookup f = some d → ∃ v u y, Rep K r H d v ∧ RelV v u ∧ od = some y ∧ PySem.W.lookIn f y = some (some u) := by
  obtain ⟨dx, vs, h1, h2, h3, h4⟩ := o
  obtain ⟨⟨oe, gs, g1, g2, g3⟩, _, _⟩ := hok a _ h1
  have nc : PySem.W.notCls oe = true := by unfold PySem.W.notCls; rw [g3]
  cases dx with
  | none =>
    refine ⟨oe, none, ⟨g1, g2.1, nc, by rw [g2.2]; trivial⟩, fun f d hl => ?_⟩
    obtain ⟨v, hv, _⟩ := h4.look hl
    rw [h3 rfl] at hv; cases hv
  | some dd =>
    have hx : ObjOk P wd H h dd (.xd vs) := hok dd _ (h2 dd rfl).2
    obtain ⟨mA, hns, hr⟩ := hx
    obtain ⟨y, ho, hl⟩ := lookIn_ns hns
    refine ⟨oe, some y, ⟨g1, g2.1, nc, by rw [g2.2]; exact ho⟩, fun f d hf => ?_⟩
    obtain ⟨v, hv, rv⟩ := h4.look hf
    obtain ⟨u, hu, ru⟩ := RelO.some_of (v := v) (o := mA f) (by rw [← hv]; exact hr f)
    exact ⟨v, u, y, rv, ru, rfl, by rw [hl, hu]⟩
theorem de_xf {Cs : List Str} {f : Str} (T : XfK X.K Cs f) (he : DE X e w) (hb : attributeBase e f X.env (eval e X.env) = eval e X.env := by rfl) : DE X (.Attribute e f pos) (wXf Cs f w) := fun W tk => by
  refine ⟨fun pins s σ H Q I ⟨r, env, ah, q, x, hE, hh, hw, hq, hx⟩ => ?_⟩
  refine attr_of hb (thn ((he W tk).run pins s σ H (fun v H1 => ∃ (u : Unit), ∀ (s1 : Shared) (uv : Value), Inv X pins σ H1 s1 → RelV v uv → wpAny (model X.prog X.w) X.A (getAttr uv f true) (EP X pins σ Q) X.xe s1) I ⟨r, env, ah, _, x, hE, hh, hw, fun d ah1 h1 r1 H1 v k1 hh1 p1 => ⟨(), fun s1 uv I1 ru => ?_⟩, hx⟩) fun uv s1 ⟨v, H1, I1, ru, _, z⟩ => z s1 uv I1 ru)
  dsimp only at h1
  split at h1
  · rename_i n
    obtain ⟨a, ha, rfl⟩ := p1
    obtain rfl : uv = Value.ref a := ru
    split at h1
    · rename_i C fs hn
      obtain ⟨hC, h1⟩ := h1
      obtain ⟨oe, od, J, look⟩ := inst_of I1.hok (hh1.ob n a _ ha hn)
      split at h1
      · rename_i d hl
        obtain ⟨v, u, y, rv, ru, rfl, ho⟩ := look f d hl
        obtain ⟨T1, T2⟩ := T C hC
        exact HandSPX.exc_get I1.kIn J T1.ga T1.gg T1.exC (PySem.W.findObj_own T1.hdC T2 rfl ho) (handed_of ru) ⟨v, H1, I1.tok _, ru, hq d ah1 h1 r1 H1 v k1 hh1 rv⟩
      · exact h1.elim
    · exact h1.elim
  · exact h1.elim
/-- isinstance(e, D), e an exception that was kept -/
def gIsx (Cs Ds : List Str) : FA := fun ds ah q => match ds with
  | [.ref n, .glo D] => (match ah[n]? with
    | some (.exc C _) => C ∈ Cs ∧ D ∈ Ds ∧ q (.bl (decide (C = D))) ah
    | _ => False)
  | _ => False
theorem cal_isx {Cs Ds : List Str} (T : KinKs X.K Cs Ds) : Cal X (.builtin "isinstance") (gIsx Cs Ds) := by
  refine ⟨fun xs H Q => ∃ (a : Addr) (C D : Str) (fs : List (Str × Z.D)) (r : List Addr), xs = [.ref a, .ref (He.ga X.K D)] ∧ ORep X.K r H a (.exc C fs) ∧ C ∈ Cs ∧ D ∈ Ds ∧ Q (.bl (decide (C = D))) H, ?_, fun rr H ah ds vs q Q hh p w hq => ?_⟩
  · intro pins s σ H xs us Q I rv ⟨a, C, D, fs, r, e, o, hC, hD, q⟩
    subst e
    cases rv with
    | cons r1 rv =>
      cases rv with
      | cons r2 rv =>
        cases rv
        cases r1
        cases r2
        obtain ⟨oe, od, J, _⟩ := inst_of I.hok o
        have k := T C hC D hD
        exact PySem.W.kia_one (PySem.W.kitx_exc k.cl k.ga k.gg k.su k.ca k.sp k.tk k.mo) I.kIn J k.is_ (fun z => nomatch z) fun tk => ⟨.bl _, H, I.kept (t' := tk) fun _ _ z => z, rfl, q⟩
  · unfold gIsx at w
    split at w
    · obtain ⟨v, v', rfl, ⟨a, ha, rfl⟩, p2⟩ := p.two_of
      cases p2
      split at w
      · rename_i hn
        exact ⟨a, _, _, _, rr, rfl, hh.ob _ _ _ ha hn, w.1, w.2.1, hq.here w.2.2 hh rfl⟩
      · exact w.elim
    · exact w.elim
end
section
variable {X : Cx} {x1 x2 x3 x4 n m : Str} {i j kk : Nat} {body : List Stmt} {p1 p2 p3 p4 p5 p6 p7 tp pos pos' : Pos} {wb : WS}
/-- try: .. except (..) as n: m = n; slot i is n's, slot j is m's -/
def wTry (Cs : List Str) (i j : Nat) (wb : WS) : WS := fun env ah dn _ => wb env ah dn fun e env1 ah1 => e.1 ∈ Cs ∧ dn.nx (no (st (st env1 i (.ref ah1.length)) j (.ref ah1.length)) i) (ah1 ++ [.exc e.1 e.2])
theorem ds_try {Cs : List Str} (T : CatK X.K Cs [x1, x2, x3, x4]) (hs : X.stack = X.env :: X.outer) (hf : X.env.frame = some X.env.locals) (hx : X.ex = []) (hN : X.N.Nodup) (hi : X.N[i]? = some n) (hj : X.N[j]? = some m) (hln : X.env.kindOf n = some .local) (hlm : X.env.kindOf m = some .local)
    (h1 : Names X x1 (.ref (He.ga X.K x1))) (h2 : Names X x2 (.ref (He.ga X.K x2))) (h3 : Names X x3 (.ref (He.ga X.K x3))) (h4 : Names X x4 (.ref (He.ga X.K x4)))
    (hb : ∀ (pn : List (Addr × Obj)) (xe : Value → Shared → Prop), DSs (X.tr pn xe) body wb) (hd : (n == ("__debug__" : Str)) = false) (hcd : (n == ("__classdict__" : Str)) = false) (hsw : swapsWith (.Name n p7) (some (.Name m p6)) p5.line X.env = pure false) :
    DS X (.Try body [.ExceptHandler (some (.Tuple [.Name x1 p1, .Name x2 p2, .Name x3 p3, .Name x4 p4] kk tp)) (some n) [.Assign [.Name m p6] (.Name n p7) p5] pos'] [] [] pos) (wTry Cs i j wb) := fun W tk => by
  refine (ps_try_keep (tb := fun W => LS X.K wb W) (ts := tAsg (tVar i) (gName j)) hs hf hx hN hi hln h1 h2 h3 h4 (fun W pn xe tk => hb pn xe W tk) (fun a pn => pss_one (ps_set (X := X.suite a pn) hN hj (.inl hlm) (pe_var (X := X.suite a pn) hi (.inl hln) hd hcd) hsw (.inr hlm)))).weak fun Dn s H ⟨r, env, ah, dn, x, he, hh, hw, hdn, hxs⟩ => ?_
  refine ⟨r, env, ah, dn, _, he, hh, hw, hdn, fun C fs env1 ah1 ⟨hC, hn⟩ r1 H1 s1 dx k1 hh1 he1 xr => ⟨T C hC, fun a na hlen => ?_⟩⟩
  have hlt : i < s1.length := by rw [hlen]; exact (List.getElem?_eq_some_iff.mp hi).1
  refine ⟨.ref a, by rw [List.getElem?_set_self hlt], ?_⟩
  have kp : Kp X.K r1 H1 (r1 ++ [a]) (upd H1 a (EXO (.ref (He.ga X.K C)) dx a)) := Kp.push na
  have la : (r1 ++ [a])[ah1.length]? = some a := by rw [← hh1.len]; simp
  have ra : Rep X.K (r1 ++ [a]) (upd H1 a (EXO (.ref (He.ga X.K C)) dx a)) (.ref ah1.length) (.ref a) := ⟨a, la, rfl⟩
  have he2 := he1.mono kp
  have hne : ∀ d u, H1 d = some u → d ≠ a := fun d u e z => by rw [z, na] at e; cases e
  refine hdn.nx _ _ hn (r1 ++ [a]) _ _ (k1.trans kp) (hh1.push na ?_) (((he2.set i ra).set j ra).no i none)
  rcases xr with ⟨d, vs, rfl, y1, y2, y3⟩ | ⟨rfl, rfl⟩
  · refine ⟨some d, vs, upd_same, fun d' hd' => ?_, (fun z => nomatch z), y3.mono kp⟩
    cases hd'
    refine ⟨fun z => ?_, by rw [upd_ne (hne d _ y2)]; exact y2⟩
    rcases List.mem_append.mp z with z | z
    · exact y1 z
    · exact hne d _ y2 (List.mem_singleton.mp z)
  · exact ⟨none, [], upd_same, (fun d' hd' => nomatch hd'), fun _ => rfl, rfl⟩
end
end Z
namespace Z
open PySem PySem.Spec PyProof.Rows L2
/-- a def that asks what it got, and lets nothing out: Wr its reading by the reading of what is asked, n its slots -/
def HasR (P : Program) (wd : World) (K : PySem.W.Frag) (mg : Str → Option Value) (base : Heap) (y a : Str) (k n : Nat) (Wr : WE → WS) : Prop :=
  ∃ (g : Addr) (fd : FuncData) (params : Arguments) (bg : List Stmt) (sg : Scope) (Ng : List Str), mg y = some (.ref g) ∧ FunD K y y params bg sg [] [] g fd ∧ Binds K fd [a] [] ∧ FnScope Ng [a] sg ∧ Ng[0]? = some a ∧ Vis sg a ∧ Ng.length = n ∧
    ∀ (cdv : Value) (A : Around) (outer : List Env) (s : Shared) (H : Hp) (wA : WE), RoomG k (A.deeper (envOfC y sg s.heap.objs.size g cdv)) →
      (∀ (pn : List (Addr × Obj)) (xe : Value → Shared → Prop) (p1 p2 : Pos), DE ((cxOf C8.CX0 P wd K mg base Ng y sg g cdv A outer s H C8.E0).tr pn xe) (.Call (.Name a p1) [] [] p2) wA) →
      DSs (cxOf C8.CX0 P wd K mg base Ng y sg g cdv A outer s H C8.E0).nox bg (Wr wA)
def wRaised (n : Nat) (Wr : WE → WS) (wb : WE) : WE := fun env ah q _ => ∀ (f c : Addr) (qn : Str) (us : List V),
  Wr (wAct 0 (.fn f c qn (capD env) us) env wb) (startD n [.fn f c qn (capD env) us]) ah { nx := fun _ ah' => q .non ah', rt := q } (fun _ _ _ => False)
section
variable {X : Cx} {y a : Str} {k n : Nat} {Wr : WE → WS} {c P : Addr} {params : Arguments} {body : Expr} {scope : Scope} {p lpos pos : Pos} {wb : WE}
theorem de_raised (R : HasR X.prog X.w X.K X.mg X.base y a (k + 1) n Wr) (hr : RoomG (k + 2) X.A) (hg : Gl X y) (L : LamZ X.N X.env.scope scope) (M : Makes X c P params body scope lpos) (hT : P ∈ tabsOf X.K) (hq : lamQ X = tq X.K P)
    (hbody : ∀ (A : Around) (outer : List Env) (s : Shared) (H : Hp) (E : XK) (f c' : Addr), RoomG k (A.deeper (LamX.lamEnv X scope s.heap.objs.size f c')) → DE (LamX.lamCx X A outer s H E scope f c') body wb)
    (hdb : (y == ("__debug__" : Str)) = false := by decide) (hd : (a == ("__debug__" : Str)) = false := by decide) (hcd : (a == ("__classdict__" : Str)) = false := by decide) :
    DE X (.Call (.Name y p) [.Lambda params body scope lpos] [] pos) (wRaised n Wr wb) := fun W tk => by
  refine ⟨fun pins s σ H Q I ⟨r, env, ah, q, x, he, hh, hw, hQ, hx⟩ => ?_⟩
  obtain ⟨g, fd, pg, bg, sg, Ng, hm, F, hb, Sg, hN0, hva, rfl, hR⟩ := R
  have hk := F.kp
  obtain ⟨oc, od, dV, kV, doc, pm, an, cdv, ct, osl, rfl, lk, hcg, _, _⟩ := F.ex
  refine wpAny_Call_Name_kw (ld_glob I hg hm ?_ hdb)
  refine PySem.W.callWith_K (h₀ := X.base) I.ok.mod.kin hk ?_ (by rfl) (by rfl)
  show wpAny _ _ (spliced ((false, eval (.Lambda params body scope lpos) X.env) :: backTo pos (starEach [] X.env))) _ _ s
  obtain ⟨ps, hP⟩ := hh.te P hT
  have hTab : TabR r H P (lamQ X) := by rw [hq]; exact hh.tb P ps hP
  refine Calls.spliced_cons (M pins σ H s r _ I (fun b hb => hh.fresh hb) hTab fun f c' dV' doc' pm' ctv H1 s' I1 t hf hfn hfr hbd => ?_)
  refine Calls.spliced_nil ⟨I1.kIn, ?_⟩
  have kp : Kp X.K r H r H1 := t.kp
  have rc : codeAny (model X.prog X.w) X.A (.call (.ref g) ⟨[.ref f], []⟩) (CR C8.CX0 X.stack X.prog X.w H1 s' Q C8.E0) s' := by
    refine LamX.run_ofS (N := Ng) (ps := [a]) (us := [.ref f]) (vs := [.ref f]) lk hcg Sg hr.room I1.env0 (hb s' [.ref f] I1.kIn rfl) (.cons rfl .nil) rfl fun hr' => ?_
    have hr2 : RoomG (k + 1) (X.A.deeper (envOfC y sg s'.heap.objs.size g cdv)) := ⟨hr', hr.gd⟩
    have hS := hR cdv X.A X.stack s' H1 (wAct 0 (.fn f c' (lamQ X) (capD env) (capV env σ)) env wb) hr2 fun pn xe p1 p2 =>
      de_act (i := 0) I1 L hf hfn hfr hbd (he.mono kp) hr2 (fun A outer s H E hr3 => hbody A outer s H E f c' hr3) hN0 hva hd hcd
    refine ⟨_, (hS (fun _ _ _ _ => False) LamX.takes0).nox, r, startD Ng.length [.fn f c' (lamQ X) (capD env) (capV env σ)], ah, _, _, ?_, t.hrep hq hh, hw f c' (lamQ X) (capV env σ), ⟨fun env1 ah1 h1 r1 H1 s1 k1 hh1 he1 => hQ _ _ h1 r1 H1 _ (kp.trans k1) hh1 rfl, hQ.step kp, fun _ _ z => z.elim, fun _ _ z => z.elim⟩, fun C fs env1 ah1 h1 => h1.elim⟩
    unfold startD L2.start
    exact ERep.start (ds := [_]) (vs := [_]) _ ⟨.ref f, [], rfl, ⟨rfl, t.cr, t.co, (cap_rep he).mono kp⟩, rfl⟩
  refine wpAny_call (codeAny_mono rc fun rs s2 hq => ?_)
  cases rs with
  | error e => exact (show False from hq).elim
  | ok fl =>
    cases fl with
    | ret u => exact I1.after hq
    | next => exact False.elim hq
    | brk => exact False.elim hq
    | cont => exact False.elim hq
end
/-! ### a def that makes lambdas knows its code object -/
def codeOf (K : PySem.W.Frag) (f : Addr) : Value := match K.lookup f with
  | some ⟨_, _, .func g, _⟩ => g.code
  | _ => .none
section
variable {P : Program} {wd : World} {K : PySem.W.Frag} {mg : Str → Option Value} {base : Heap} {k : Nat} {f : Addr} {fd : FuncData} {ps N : List Str} {sp : DSp} {u : WS} {x y qual : Str} {params : Arguments} {body : List Stmt} {scope : Scope} {dvs : List V} {kws : List (Str × V)}
abbrev BodyOkC (P : Program) (wd : World) (K : PySem.W.Frag) (mg : Str → Option Value) (base : Heap) (k : Nat) (N : List Str) (qual : Str) (scope : Scope) (f : Addr) (body : List Stmt) (u : WS) : Prop :=
  ∀ (A : Around) (outer : List Env) (s : Shared) (H : Hp) (E : XK), RoomG k (A.deeper (envOfC qual scope s.heap.objs.size f (codeOf K f))) → DSs (cxOf (L2.CX P wd) P wd K mg base N qual scope f (codeOf K f) A outer s H E) body u
/-- the table of a def's code object -/
def TabC (K : PySem.W.Frag) (base : Heap) (mg : Str → Option Value) (f : Addr) (qual : Str) : Prop := ∃ c Pl, LamX.TabB base mg c Pl ∧ codeOf K f = .ref c ∧ Pl ∈ tabsOf K ∧ qual ++ ".<locals>." ++ "<lambda>" = tq K Pl
theorem HasR.mono {a : Str} {j n : Nat} {Wr : WE → WS} (h : HasR P wd K mg base y a j n Wr) (hj : j ≤ k) : HasR P wd K mg base y a k n Wr := by
  obtain ⟨g, fd, pg, bg, sg, Ng, hm, F, hb, Sg, hN0, hva, hn, hR⟩ := h
  exact ⟨g, fd, pg, bg, sg, Ng, hm, F, hb, Sg, hN0, hva, hn, fun cdv A outer s H wA hr => hR cdv A outer s H wA (hr.mono hj)⟩
theorem dfn_ofC (F : FunD K x qual params body scope dvs kws f fd) (S : FnScope N ps scope) (len : ∀ ds ah q x, sp ds ah q x → ds.length = ps.length) (hbody : BodyOkC P wd K mg base k N qual scope f body u) (hsp : KeepsTo sp N.length u) : DFn P wd K mg base (k + 1) f fd ps sp := by
  obtain ⟨oc, od, dV, kV, doc, pm, an, cdv, ct, osl, rfl, lk, hcd, _, _⟩ := F.ex
  have ec : codeOf K f = cdv := by unfold codeOf; rw [lk]
  refine ⟨fun vs H Q E ⟨r, ds, ah, q, x, rv, hh, h, hq, hx⟩ => by rw [rv.length]; exact len _ _ _ _ h, fun A outer s H args us vs Q E hr e0 hb rv0 ⟨r, ds, ah, q, x, rv, hh, h, hq, hx⟩ => ?_⟩
  refine LamX.run_ofS lk hcd S hr.room e0 hb rv0 (by rw [rv.length]; exact len _ _ _ _ h) fun hr' => ?_
  have hB := hbody A outer s H E
  rw [ec] at hB
  refine ⟨_, hB ⟨hr', hr.gd⟩ _ (takes_of rfl rfl rfl rfl), r, startD N.length ds, ah, _, _, ?_, hh, hsp ds ah q x h, ⟨fun env1 ah1 h1 r1 H1 s1 k1 hh1 he1 => hq _ _ h1 r1 H1 _ k1 hh1 rfl, hq, fun _ _ z => z.elim, fun _ _ z => z.elim⟩, fun C fs env1 ah1 h1 r1 H1 s1 dx k1 hh1 he1 xr => hx C fs ah1 h1 r1 H1 dx k1 hh1 xr⟩
  unfold startD L2.start
  rw [rv.length]
  exact ERep.start _ rv
theorem mk_hasC (F : FunD K x qual params body scope dvs kws f fd) (hm : mg y = some (.ref f)) (hb : Binds K fd ps []) (S : FnScope N ps scope) (len : ∀ ds ah q x, sp ds ah q x → ds.length = ps.length) (hbody : BodyOkC P wd K mg base k N qual scope f body u) (hsp : KeepsTo sp N.length u) : Has P wd K mg base y (k + 1) sp :=
  ⟨f, hm, F.kp, fnc_of (dfn_ofC F S len hbody hsp) hb⟩
end
end Z
namespace Z
open PySem PySem.Spec PyProof.Rows L2
/-! the head's facts where defs make lambdas: the tables of their code objects are no part of the written text -/
def cdP (K : PySem.W.Frag) (f : Str) : Option (Addr × Addr) := match codeOf K (He.ga K f) with
  | .ref c => (match K.lookup c with
    | some ⟨.type "code", _, .fields vs, _⟩ => (match vs[11]?, vs.getD 18 .none, vs.getD 7 .none, vs.getD 9 .none, vs.getD 10 .none with
      | some (Value.ref Pl), .str _ _, .int _ _, .bool _, .int _ _ => if c ≠ Pl then some (c, Pl) else none
      | _, _, _, _, _ => none)
    | _ => none)
  | _ => none
def empT (K : PySem.W.Frag) (Pl : Addr) : Bool := match K.lookup Pl with
  | some ⟨.none, none, .fields us, sl⟩ => us.isEmpty && sl.isEmpty
  | _ => false
def csT (K : PySem.W.Frag) (fs : List Str) : List (Addr × Addr) := fs.filterMap (cdP K)
def filT (K : PySem.W.Frag) (fs : List Str) : PySem.W.Frag := K.filter fun p => !(decide (p.1 ∈ (csT K fs).map (·.2)))
def tabB (fs : List Str) (K0 K : PySem.W.Frag) (cs : List (Addr × Addr)) : Bool := (fs.all fun f => match cdP K0 f with
  | some (c, Pl) => empT K0 Pl && (decide (codeOf K (He.ga K f) = .ref c) && (decide (Pl ∈ tabsOf K) && decide (f ++ ".<locals>." ++ "<lambda>" = tq K Pl)))
  | none => false) && (tabsOf K).all fun b => decide (b ∈ cs.map (·.2))
theorem look_fil {p : Addr → Bool} {b : Addr} : ∀ {K : PySem.W.Frag}, (K.filter fun q => p q.1).lookup b = if p b then K.lookup b else none
  | [] => by simp
  | (a, o) :: K => by
    rw [List.filter_cons]
    by_cases hb : b = a
    · subst hb
      by_cases h : p b = true
      · simp [h]
      · simp [h, look_fil (p := p) (b := b) (K := K)]
    · have hb' : (b == a) = false := by simpa using hb
      by_cases h : p a = true
      · simp [h, List.lookup_cons, hb', look_fil (p := p) (b := b) (K := K)]
      · simp [h, List.lookup_cons, hb', look_fil (p := p) (b := b) (K := K)]
section
variable {K : PySem.W.Frag} {fs : List Str} {h : Heap}
theorem fil_in (k : K.In h) : (filT K fs).In h := fun b o e => by
  unfold filT at e
  rw [look_fil (p := fun a => !(decide (a ∈ (csT K fs).map (·.2))))] at e
  split at e
  · exact k b o e
  · cases e
theorem fil_no {p : Addr × Addr} (hp : p ∈ csT K fs) : (filT K fs).lookup p.2 = none := by
  unfold filT
  rw [look_fil (p := fun a => !(decide (a ∈ (csT K fs).map (·.2)))), if_neg]
  simpa using ⟨p.1, hp⟩
theorem cdP_hd {f : Str} {c Pl : Addr} (k : K.In h) (e : cdP K f = some (c, Pl)) : PySem.W.CodeHd h c Pl := by
  unfold cdP at e
  split at e
  · rename_i c' _
    split at e
    · rename_i d vs sl hl
      split at e
      · rename_i P' x1 x2 x3 x4 x5 x6 x7 e1 e2 e3 e4 e5
        split at e
        · rename_i hne
          cases e
          exact ⟨_, vs, _, _, _, _, _, _, _, k _ _ hl, rfl, rfl, e1, by rw [Array.getD_eq_getD_getElem?, e1]; rfl, e2, e3, e4, e5, hne⟩
        · cases e
      · cases e
    · cases e
  · cases e
theorem empT_ok {Pl : Addr} (k : K.In h) (e : empT K Pl = true) : h.get? Pl = some { cls := .none, data := .fields #[] } := by
  unfold empT at e
  split at e
  · rename_i us sl hl
    rw [Bool.and_eq_true] at e
    have h1 : us = #[] := by simpa using e.1
    have h2 : sl = #[] := by simpa using e.2
    subst h1 h2
    exact k _ _ hl
  · cases e
end
def obsT (fa : List He.Fa) (fn : List DefZ) (ex : Exs) (fs : List Str) (K0 : PySem.W.Frag) : He.AlD :=
  ((obsZ fa fn ex (filT K0 fs)).1 && tabB fs K0 (filT K0 fs) (csT K0 fs), (obsZ fa fn ex (filT K0 fs)).2)
/-- what is said of the tables -/
structure SaysT (fa : List He.Fa) (fn : List DefZ) (ex : Exs) (fs : List Str) (K : PySem.W.Frag) (cs : List (Addr × Addr)) (h : Heap) : Prop where
  says : SaysZ fa fn ex K
  all : ∀ b ∈ tabsOf K, b ∈ cs.map (·.2)
  emp : ∀ p ∈ cs, h.get? p.2 = some { cls := .none, data := .fields #[] }
  no : ∀ p ∈ cs, K.lookup p.2 = none
  hd : ∀ p ∈ cs, PySem.W.CodeHd h p.1 p.2
  of : ∀ f ∈ fs, ∃ p ∈ cs, codeOf K (He.ga K f) = .ref p.1 ∧ p.2 ∈ tabsOf K ∧ f ++ ".<locals>." ++ "<lambda>" = tq K p.2
theorem saysT_of {fa : List He.Fa} {fn : List DefZ} {ex : Exs} {fs : List Str} {K : PySem.W.Frag} {h : Heap} (k : K.In h) (e : obsT fa fn ex fs K = valZ fn) : SaysT fa fn ex fs (filT K fs) (csT K fs) h := by
  have e1 : ((obsZ fa fn ex (filT K fs)).1 && tabB fs K (filT K fs) (csT K fs)) = true := congrArg (fun z : He.AlD => z.1) e
  have e2 : (obsT fa fn ex fs K).2 = (valZ fn).2 := by rw [e]
  rw [Bool.and_eq_true] at e1
  have hB := e1.2
  unfold tabB at hB
  rw [Bool.and_eq_true] at hB
  have one : ∀ f ∈ fs, ∃ c Pl, cdP K f = some (c, Pl) ∧ empT K Pl = true ∧ codeOf (filT K fs) (He.ga (filT K fs) f) = .ref c ∧ Pl ∈ tabsOf (filT K fs) ∧ f ++ ".<locals>." ++ "<lambda>" = tq (filT K fs) Pl := fun f hf => by
    have q := List.all_eq_true.mp hB.1 f hf
    split at q
    · rename_i c Pl hc
      simp only [Bool.and_eq_true, decide_eq_true_eq] at q
      exact ⟨c, Pl, hc, q.1, q.2.1, q.2.2.1, q.2.2.2⟩
    · cases q
  refine ⟨⟨Prod.ext e1.1 e2⟩, fun b hb => of_decide_eq_true (List.all_eq_true.mp hB.2 b hb), fun p hp => ?_, fun p hp => fil_no hp, fun p hp => ?_, fun f hf => ?_⟩
  · obtain ⟨f, hf, hc⟩ := List.mem_filterMap.mp hp
    obtain ⟨c, Pl, g1, g2, _⟩ := one f hf
    rw [g1] at hc; cases hc
    exact empT_ok k g2
  · obtain ⟨f, hf, hc⟩ := List.mem_filterMap.mp hp
    exact cdP_hd k hc
  · obtain ⟨c, Pl, g1, g2, g3, g4, g5⟩ := one f hf
    exact ⟨(c, Pl), List.mem_filterMap.mpr ⟨f, hf, g1⟩, g3, g4, g5⟩
def hookT (n : Nat) (fa : List He.Fa) (fn : List DefZ) (ex : Exs) (fs : List Str) : PySem.W.Hook where
  α := He.AlD
  obs := fun s => obsT fa fn ex fs (He.frG s.heap.get? (sysModules :: cStatics :: He.asD s.heap.get? n))
  val := fun _ => valZ fn
  says := fun _ h => ∃ K : PySem.W.Frag, K.In h ∧ obsT fa fn ex fs K = valZ fn
  of := fun _ _ e => ⟨_, He.frG_in, e⟩
  keeps := fun _ _ _ ⟨K, hK, c⟩ k => ⟨K, PySem.W.Frag.In.keeps hK k, c⟩
theorem obsT_eq {n : Nat} {fa : List He.Fa} {fn : List DefZ} {ex : Exs} {fs : List Str} {g : Addr → Option Obj} {s : Shared} (h : ∀ a, g a = s.heap.get? a) : obsT fa fn ex fs (He.frG g (sysModules :: cStatics :: He.asD g n)) = (hookT n fa fn ex fs).obs s := by
  have e : g = s.heap.get? := funext h
  rw [e]; rfl
theorem SaysT.tabC {fa : List He.Fa} {fn : List DefZ} {ex : Exs} {fs : List Str} {K : PySem.W.Frag} {cs : List (Addr × Addr)} {h base : Heap} {mg : Str → Option Value} {f : Str} (c : SaysT fa fn ex fs K cs h) (TB : ∀ p ∈ cs, LamX.TabB base mg p.1 p.2) (hf : f ∈ fs) : TabC K base mg (He.ga K f) f := by
  obtain ⟨p, hp, h1, h2, h3⟩ := c.of f hf
  exact ⟨p.1, p.2, TB p hp, h1, h2, h3⟩
end Z
namespace Z
open PySem PySem.Spec PyProof.Rows L2
/-! ### len(o), o[i], x in o, o(..), o == x, o[i] = v by the class's own defs -/
def insAt (C : Str) (d : D) (ah : AH) (k : Prop) : Prop := match d with
  | .ref n => (match ah[n]? with
    | some (.ins c _) => c = C ∧ k
    | _ => False)
  | _ => False
def xFn (C m : Str) : PySem.W.Frag → Bool := fun K => PySem.W.fnIn K (He.ma K (He.ga K C) m)
theorem RoomG.in1 {k : Nat} {A : Around} (r : RoomG (k + 1) A) : RoomG k A.in1 := ⟨r.room.in1, r.gd⟩
section
variable {X : Cx} {C m : Str} {k j : Nat} {sp : DSp} {f : Addr} {pins : List (Addr × Obj)} {σ : L2.St} {H : Hp} {s : Shared} {W : WX} {Q : VK}
theorem runs_in {A : Around} {sp : Sp} {us : List Value} {vs : List V} (F : FnC X.prog X.w X.K X.mg X.base k f sp) (hr : RoomG k A) (e0 : Env0 X.prog X.w X.K X.mg X.base A X.stack s H) (tk : Takes X W) (I : Inv X pins σ H s) (r : Vals vs us) (h : sp vs H Q (fun c d H' => W c d σ H')) :
    wpAny (model X.prog X.w) A (call (.ref f) us) (EP X pins σ Q) X.xe s := by
  refine wpAny_call (codeAny_mono (F A X.stack s H us vs Q _ hr e0 r h) fun r s' hq => ?_)
  rcases r with e | fl
  · exact tk e s' (XE.of_call I (fun _ _ _ z => z) hq)
  · cases fl <;> first | exact hq.elim | exact I.after hq
theorem insAt_at {r : List Addr} {ah : AH} {d : D} {v : V} {p : Prop} (hh : HRep X.K r H ah) (pv : Rep X.K r H d v) (h : insAt C d ah p) : ∃ a dx fs, v = .ref a ∧ H a = some (.ins (He.ga X.K C) dx fs) ∧ p := by
  unfold insAt at h
  split at h
  · obtain ⟨a, e1, rfl⟩ := pv
    split at h
    · obtain ⟨rfl, h⟩ := h
      obtain ⟨dx, vs, f1, _, _, rf⟩ := hh.ob _ _ _ e1 (by assumption)
      exact ⟨a, dx, vs, rfl, f1, h⟩
    · exact h.elim
  · exact h.elim
theorem inst_at {a dx : Addr} {C : Addr} {fs : List (Str × V)} (I : Inv X pins σ H s) (e : H a = some (.ins C dx fs)) : ∃ ox od, PySem.W.InstAt s.heap a ox C (some od) ∧ ox.data = .plain := by
  obtain ⟨mA, J, _⟩ := ins_get I.hok e
  obtain ⟨od, J, _⟩ := J.look
  exact ⟨_, od, J, rfl⟩
end
theorem kcoW {M : Model} {A : Around} {E : Value → Shared → Prop} {s : Shared} {pos : Pos} {x : Addr} (C : Addr) {first : List Value} {Q : Value → Shared → Prop} {args : List (Bool × Sem Value)} (hplain : (args.any (·.1) || ([] : List (Option Str × Sem Value)).any (·.1.isNone)) = false)
    (h : wpAny M A (evalArgs (.ref x) true args []) (fun a s₁ => (∃ ox od, PySem.W.InstAt s₁.heap x ox C od ∧ ox.data = .plain) ∧ wpAny M A (call (.ref x) (first ++ a.pos) a.kw) Q E s₁) E s) : wpAny M A (callWith pos (.ref x) first args []) Q E s := by
  unfold callWith
  refine wpAny_bind (wpAny_holding (wpAny_mono h (fun a s₁ h₁ => wpAny_bind (wpAny_standAt ?_)) fun _ _ y => y))
  obtain ⟨⟨ox2, od2, J2, hd2⟩, h2⟩ := h₁
  have L := PySem.W.kco_keeper (M := M) J2 hd2
  simp only [hplain]
  refine wpAny_bind (L.here ?_)
  have tail : ∀ {t : Sem Value}, wpAny M A t Q E s₁ → wpAny M A (t >>= fun r => holding [r] point >>= fun _ => pure r) Q E s₁ :=
    fun ht => wpAny_bind (wpAny_mono ht (fun r s₂ hr => wpAny_bind (wpAny_holding (wpAny_point (wpAny_pure hr)))) fun _ _ y => y)
  exact tail (wpAny_operateT h2)
section
variable {X : Cx} {C m x : Str} {k j : Nat} {sp : DSp} {a b e o : Expr} {es : List Expr} {wa wb wo : WE} {ws : WA} {pos p : Pos}
theorem ma_of {K : PySem.W.Frag} {C f : Addr} (h : Meth K C m f) : He.ma K C m = f := by
  unfold He.ma
  rw [h.at_]
/-- len(o) -/
def wLenI (C : Str) (sp : DSp) (w : WE) : WE := fun env ah q x => w env ah (fun d ah1 => insAt C d ah1 (sp [d] ah1 (fun z ah2 => ∃ i : Int, z = .int i ∧ (0 ≤ i ∧ i < 2 ^ 63) ∧ q z ah2) x)) x
theorem de_lenI (hg : Gl X "len") (hm : X.mg "len" = none) (ha : DE X a wa) (F : HasM X.prog X.w X.K X.mg X.base C "__len__" k sp) (hr : RoomG j X.A) (hj : k + 1 ≤ j)
    (he : starEach [a] X.env = (false, eval a X.env) :: starEach [] X.env := by rfl) : DE X (.Call (.Name "len" p) [a] [] pos) (wLenI C sp wa) := fun W tk => by
  obtain ⟨f, c, hmt, F⟩ := F
  refine ⟨fun pins s σ H Q I h => wpAny_Call_Name_kw (ld_blt (u := .builtin "len") I hg hm (by decide +kernel) ?_ (by decide) (by decide))⟩
  obtain ⟨r, env, ah, q, x, he', hh, hw, hq, hx⟩ := h
  have pa : PA X [a] (tCons (LE X.K wa W) tNil) := pa_cons (ha W tk) pa_nil he
  have ht : tCons (LE X.K wa W) tNil σ H fun vs H1 => ∃ v r1 ah1 d, vs = [v] ∧ Kp X.K r H r1 H1 ∧ HRep X.K r1 H1 ah1 ∧ Rep X.K r1 H1 d v ∧ insAt C d ah1 (sp [d] ah1 (fun z ah2 => ∃ i : Int, z = .int i ∧ (0 ≤ i ∧ i < 2 ^ 63) ∧ q z ah2) x) :=
    ⟨r, env, ah, _, x, he', hh, hw, fun d ah1 h1 r1 H1 v k1 hh1 p1 => ⟨v, r1, ah1, d, rfl, k1, hh1, p1, h1⟩, hx⟩
  refine PyProof.Rows.callWith_builtin1 (thn (pa.run pos pins s σ H _ I ht) fun us s1 ⟨vs, H1, I1, r1, v, rr, ah1, d, ev, k1, hh1, p1, h1⟩ => ?_) he rfl
  subst ev
  obtain ⟨u, rfl, ru⟩ := r1.one
  obtain ⟨aa, dx, fs, rfl, hi, h2⟩ := insAt_at hh1 p1 h1
  cases ru
  obtain ⟨ox, od, J, _⟩ := inst_at I1 hi
  obtain ⟨mm, hF⟩ := I1.fr
  refine PySem.W.len_K hF I1.ok.mod.kin J hmt.at_ hmt.fn (wpAny_mono (runs_in (Q := fun v H' => ∃ i : Int, v = .int i ∧ (0 ≤ i ∧ i < 2 ^ 63) ∧ Q v H') (W := W) (vs := [.ref aa]) F (hr.mono hj).in1 I1.env0.in1 tk I1 (.cons rfl .nil) ⟨rr, [d], ah1, _, x, ⟨_, [], rfl, p1, rfl⟩, hh1, h2, fun z ah2 hz r2 H2 v k2 hh2 p2 => ?_, hx.step k1⟩) (fun w s' z => ?_) fun _ _ y => y)
  · obtain ⟨i, rfl, hi2, hz⟩ := hz
    obtain rfl : v = .int i := p2
    exact ⟨i, rfl, hi2, hq _ _ hz r2 H2 _ (k1.trans k2) hh2 rfl⟩
  · obtain ⟨z', H', I', rz, i, rfl, hi2, qz⟩ := z
    obtain ⟨t, rfl⟩ := rz
    exact ⟨hi2, .int i, H', I'.tok _, ⟨_, rfl⟩, qz⟩
theorem de_dict0 : DE X (.Dict [] [] pos) (wDict wdNil) := fun W tk => pe_dnewK.weak fun s H Q ⟨r, env, ah, q, x, he, hh, hw, hq, hx⟩ p hp =>
  hq _ _ hw.2 _ _ _ (Kp.push hp) (hh.push hp ⟨[], upd_same, rfl⟩) ⟨p, by rw [← hh.len]; simp, rfl⟩
/-- o[i] -/
def wAtI (C : Str) (sp : DSp) (wa wb : WE) : WE := fun env ah q x => wa env ah (fun d ah1 => wb env ah1 (fun i ah2 => insAt C d ah2 (sp [d, i] ah2 q x)) x) x
theorem de_atI (ha : DE X a wa) (hb : DE X b wb) (hs : ∀ o i, subscripted b true o i = runValue (.builtin "lifetime.subscript" ⟨[o, i], []⟩)) (hn : PySem.W.fnIn X.K (He.ma X.K (He.ga X.K C) "__getitem__") = true) (F : HasM X.prog X.w X.K X.mg X.base C "__getitem__" k sp) (hr : RoomG j X.A) (hj : k + 1 ≤ j) : DE X (.Subscript a b pos) (wAtI C sp wa wb) := fun W tk => by
  obtain ⟨f, c, hmt, F⟩ := F
  refine ⟨fun pins s σ H Q I h => ?_⟩
  obtain ⟨r, env, ah, q, x, he', hh, hw, hq, hx⟩ := h
  refine Subscript_ (binT (R := fun v u H2 => ∃ r2 ah2 d i, Kp X.K r H r2 H2 ∧ HRep X.K r2 H2 ah2 ∧ Rep X.K r2 H2 d v ∧ Rep X.K r2 H2 i u ∧ insAt C d ah2 (sp [d, i] ah2 q x)) (ha W tk) (hb W tk) I
    ⟨r, env, ah, _, x, he', hh, hw, fun d ah1 h1 r1 H1 v k1 hh1 p1 => ⟨r1, env, ah1, _, x, he'.mono k1, hh1, h1, fun i ah2 h2 r2 H2 u k2 hh2 p2 => ⟨r2, ah2, d, i, k1.trans k2, hh2, p1.mono k2, p2, h2⟩, hx.step k1⟩, hx⟩
    fun v u s2 y z H2 I2 rx ry ⟨r2, ah2, d, i, k2, hh2, p1, p2, h2⟩ => ?_)
  obtain ⟨aa, dx, fs, rfl, hi, h3⟩ := insAt_at hh2 p1 h2
  cases rx
  obtain ⟨ox, od, J, _⟩ := inst_at I2 hi
  obtain ⟨mm, hF⟩ := I2.fr
  rw [ma_of hmt] at hn
  exact PySem.W.sub_K (hsl := hs _ _) hF I2.ok.mod.kin J hmt.at_ hn hmt.fn (runs_in (W := W) (vs := [.ref aa, z]) F (hr.mono hj).in1 I2.env0.in1 tk I2 (.cons rfl (.cons ry .nil)) ⟨r2, [d, i], ah2, q, x, ⟨_, _, rfl, p1, _, _, rfl, p2, rfl⟩, hh2, h3, hq.step k2, hx.step k2⟩)
/-- o(e, ..) -/
def wCallI (C : Str) (sp : DSp) (wf : WE) (w : WA) : WE := fun env ah q x => wf env ah (fun d ah1 => insAt C d ah1 (w env ah1 (fun ds ah2 => insAt C d ah2 (sp (d :: ds) ah2 q x)) x)) x
theorem de_callI (hf : DE X o wo) (hn : PySem.W.fnIn X.K (He.ma X.K (He.ga X.K C) "__call__") = true) (F : HasM X.prog X.w X.K X.mg X.base C "__call__" k sp) (hr : RoomG j X.A) (hj : k + 1 ≤ j) (ha : DA X (e :: es) ws)
    (ht : eval (.Call o (e :: es) [] pos) X.env = (do callWith pos (← eval o X.env) [] (backTo pos (starEach (e :: es) X.env)) (backToKw pos (keywordEach [] X.env))) := by rfl)
    (he : starEach (e :: es) X.env = (false, eval e X.env) :: starEach es X.env := by rfl) (hst : (backTo pos (starEach es X.env)).any (·.1) = false := by rfl) : DE X (.Call o (e :: es) [] pos) (wCallI C sp wo ws) := fun W tk => by
  obtain ⟨f, c, hmt, F⟩ := F
  rw [ma_of hmt] at hn
  refine ⟨fun pins s σ H Q I h => ?_⟩
  obtain ⟨r, env, ah, q, x, he', hh, hw, hq, hx⟩ := h
  refine Call_ (thn ((hf W tk).run pins s σ H (fun v H1 => ∃ r1 ah1 d, Kp X.K r H r1 H1 ∧ HRep X.K r1 H1 ah1 ∧ Rep X.K r1 H1 d v ∧ insAt C d ah1 (ws env ah1 (fun ds ah2 => insAt C d ah2 (sp (d :: ds) ah2 q x)) x)) I
    ⟨r, env, ah, _, x, he', hh, hw, fun d ah1 h1 r1 H1 v k1 hh1 p1 => ⟨r1, ah1, d, k1, hh1, p1, h1⟩, hx⟩) fun u s1 ⟨v, H1, I1, rv, r1, ah1, d, k1, hh1, p1, h1⟩ => ?_) ht
  obtain ⟨aa, dx, fs, rfl, hi, h2⟩ := insAt_at hh1 p1 h1
  obtain rfl : u = Value.ref aa := rv
  have hla : LA X.K ws W σ H1 (fun vs H2 => ∃ r2 ah2 ds, Kp X.K r1 H1 r2 H2 ∧ HRep X.K r2 H2 ah2 ∧ Reps X.K r2 H2 ds vs ∧ insAt C d ah2 (sp (d :: ds) ah2 q x)) :=
    ⟨r1, env, ah1, _, x, he'.mono k1, hh1, h2, fun ds ah2 h3 r2 H2 vs k2 hh2 p2 => ⟨r2, ah2, ds, k2, hh2, p2, h3⟩, hx.step k1⟩
  suffices key : wpAny (model X.prog X.w) X.A (spliced (backTo pos (starEach (e :: es) X.env))) (fun vs s₁ => (∃ ox od, PySem.W.InstAt s₁.heap aa ox (He.ga X.K C) od ∧ ox.data = .plain) ∧ wpAny (model X.prog X.w) X.A (call (.ref aa) ([] ++ vs)) (EP X pins σ Q) X.xe s₁) X.xe s1 by
    rw [he] at key ⊢
    exact kcoW (He.ga X.K C) (by show ((false || (backTo pos (starEach es X.env)).any (·.1)) || false) = false; rw [hst]; rfl) (PySem.Calls.evalArgs_plain key)
  refine thn ((ha W tk).run pos pins s1 σ H1 _ I1 hla) fun us s2 ⟨vs, H2, I2, rs, r2, ah2, ds, k2, hh2, p2, h3⟩ => ?_
  obtain ⟨a2, dx2, fs2, e2, hi2, h4⟩ := insAt_at hh2 (p1.mono k2) h3
  cases e2
  obtain ⟨ox2, od2, J2, hd2⟩ := inst_at I2 hi2
  refine ⟨⟨ox2, od2, J2, hd2⟩, wpAny_call (PySem.W.kco_code I2.kIn J2 hd2 hmt.at_ hmt.fn hn ?_)⟩
  have F2 := F X.A X.stack s2 H2 (.ref aa :: us) (.ref aa :: vs) Q (fun c d H' => W c d σ H') (hr.mono (Nat.le_of_succ_le hj)) I2.env0 (.cons rfl rs) ⟨r2, d :: ds, ah2, q, x, ⟨_, vs, rfl, p1.mono k2, p2⟩, hh2, h4, hq.step (k1.trans k2), hx.step (k1.trans k2)⟩
  refine codeAny_mono F2 fun r s' hq => ?_
  rcases r with e | fl
  · exact tk e s' (XE.of_call I2 (fun _ _ _ z => z) hq)
  · cases fl <;> first | exact hq.elim | exact I2.after hq
/-- o[i] = v -/
def wPutI (C : Str) (sp : DSp) (v o i : WE) : WS := fun env ah dn x => v env ah (fun d ah1 => o env ah1 (fun d1 ah2 => i env ah2 (fun d2 ah3 => insAt C d1 ah3 (sp [d1, d2, d] ah3 (fun _ ah4 => dn.nx env ah4) (atE x env))) (atE x env)) (atE x env)) (atE x env)
theorem ds_putI {pos' : Pos} {wv : WE} (hn : PySem.W.noSeq X.K (He.ga X.K C) = true) (F : HasM X.prog X.w X.K X.mg X.base C "__setitem__" k sp) (hr : RoomG j X.A) (hj : k ≤ j) (hv : DE X e wv) (ho : DE X a wa) (hi : DE X b wb)
    (ha : ∀ v, assign (.Subscript a b pos') X.env v = (do
      let ov ← holding [v] (eval a X.env)
      let iv ← holding [v, ov] (eval b X.env)
      standAt pos'
      holding [v, ov, iv] (setItem ov iv v)
      release [v, ov, iv] []) := by intro _; rfl)
    (hs : swapsWithSole [.Subscript a b pos'] e pos.line X.env = pure false := by rfl) (hw : swappedStores [.Subscript a b pos'] e X.env = pure none := by rfl)
    (h1 : (assignEach [.Subscript a b pos'] X.env).map (·.2) = [assign (.Subscript a b pos') X.env] := by rfl) : DS X (.Assign [.Subscript a b pos'] e pos) (wPutI C sp wv wa wb) := fun W tk => by
  obtain ⟨f, c, hmt, F⟩ := F
  have pg : PG X (.Subscript a b pos') (fun v σ H Q => ∃ r env ah d dn x, ERep X.K r H env σ ∧ HRep X.K r H ah ∧ Rep X.K r H d v ∧ CnXS X.K r H x W ∧ CnS X.K r H dn Q ∧
      wa env ah (fun d1 ah2 => wb env ah2 (fun d2 ah3 => insAt C d1 ah3 (sp [d1, d2, d] ah3 (fun _ ah4 => dn env ah4) (atE x env))) (atE x env)) (atE x env)) := by
    refine ⟨fun pins s σ H v u Q I rv h => ?_⟩
    obtain ⟨r, env, ah, d, dn, x, he, hh, pv, hx, hd, hw⟩ := h
    rw [ha]
    refine wpAny_bind (wpAny_holding (thn ((ho W tk).run pins s σ H (fun o H1 => ∃ r1 ah1 d1, Kp X.K r H r1 H1 ∧ HRep X.K r1 H1 ah1 ∧ Rep X.K r1 H1 d1 o ∧ wb env ah1 (fun d2 ah3 => insAt C d1 ah3 (sp [d1, d2, d] ah3 (fun _ ah4 => dn env ah4) (atE x env))) (atE x env)) I
      ⟨r, env, ah, _, _, he, hh, hw, fun d1 ah1 h1 r1 H1 o k1 hh1 p1 => ⟨r1, ah1, d1, k1, hh1, p1, h1⟩, hx.at_ he⟩) fun ov s1 ⟨o, H1, I1, ro, r1, ah1, d1, k1, hh1, p1, w1⟩ => ?_))
    have he1 := he.mono k1
    refine wpAny_bind (wpAny_holding (thn ((hi W tk).run pins s1 σ H1 (fun i H2 => ∃ r2 ah2 d2, Kp X.K r1 H1 r2 H2 ∧ HRep X.K r2 H2 ah2 ∧ Rep X.K r2 H2 d2 i ∧ insAt C d1 ah2 (sp [d1, d2, d] ah2 (fun _ ah4 => dn env ah4) (atE x env))) I1
      ⟨r1, env, ah1, _, _, he1, hh1, w1, fun d2 ah2 h2 r2 H2 i k2 hh2 p2 => ⟨r2, ah2, d2, k2, hh2, p2, h2⟩, (hx.step k1).at_ he1⟩) fun iv s2 ⟨i, H2, I2, ri, r2, ah2, d2, k2, hh2, p2, w2⟩ => ?_))
    obtain ⟨aa, dx, fs, rfl, hin, h4⟩ := insAt_at hh2 (p1.mono k2) w2
    cases ro
    obtain ⟨ox, od, J, _⟩ := inst_at I2 hin
    obtain ⟨mm, hF⟩ := I2.fr
    have he2 := he1.mono k2
    refine wpAny_bind (wpAny_standAt (wpAny_bind (wpAny_holding (PySem.W.ksp_setItem hF I2.ok.mod.kin J hn hmt.at_ hmt.fn (wpAny_mono (runs_in (W := W) (Q := fun _ H' => Q σ H') (vs := [.ref aa, i, v]) F (hr.mono hj) I2.env0 tk I2 (.cons rfl (.cons ri (.cons rv .nil)))
      ⟨r2, [d1, d2, d], ah2, _, _, ⟨_, _, rfl, p1.mono k2, _, _, rfl, p2, _, _, rfl, (pv.mono k1).mono k2, rfl⟩, hh2, h4, fun z ah3 hz r3 H3 zv k3 hh3 p3 => hd _ _ hz r3 H3 σ (k1.trans (k2.trans k3)) hh3 (he2.mono k3), ((hx.step k1).step k2).at_ he2⟩) (fun w s' z => ?_) fun _ _ y => y)))))
    obtain ⟨z', H', I', _, qz⟩ := z
    exact wpAny_release ⟨σ, H', I', qz⟩
  exact (ps_asg (hv W tk) pg hs hw h1).weak fun Dn s H ⟨r, env, ah, dn, x, he, hh, hw, hd, hx⟩ => ⟨r, env, ah, _, _, he, hh, hw, fun d ah1 h1 r1 H1 v k1 hh1 p1 => ⟨r1, env, ah1, d, dn.nx, x, he.mono k1, hh1, p1, hx.step k1, hd.nx.step k1, h1⟩, hx.at_ he⟩
end
end Z
namespace Z
open PySem PySem.Spec PyProof.Rows L2
/-! ### the head's run in parts -/
theorem map2_of {S A B : Type} {o : Option S} {f : S → A} {g : S → B} {a : A} {b : B} (h1 : o.map f = some a) (h2 : o.map g = some b) : o.map (fun s => (f s, g s)) = some (a, b) := by
  cases o with
  | none => cases h1
  | some s => cases h1; cases h2; rfl
theorem and2_of {S : Type} {o : Option S} {f g : S → Bool} (h1 : o.map f = some true) (h2 : o.map g = some true) : o.map (fun s => f s && g s) = some true := by
  cases o with
  | none => cases h1
  | some s =>
    have e1 : f s = true := Option.some.inj h1
    have e2 : g s = true := Option.some.inj h2
    show some (f s && g s) = some true
    rw [e1, e2]; rfl
theorem map3_of {S A B C : Type} {o : Option S} {f : S → A} {g : S → B} {h : S → C} {a : A} {b : B} {c : C} (h1 : o.map (fun s => (f s, g s)) = some (a, b)) (h2 : o.map h = some c) : o.map (fun s => (f s, g s, h s)) = some (a, b, c) := by
  cases o with
  | none => cases h1
  | some s => cases h1; cases h2; rfl
theorem and_l {S : Type} {o : Option S} {f g : S → Bool} (h : o.map (fun s => f s && g s) = some true) : o.map f = some true := by
  cases o with
  | none => cases h
  | some s =>
    have e : (f s && g s) = true := Option.some.inj h
    rw [Bool.and_eq_true] at e
    exact congrArg some e.1
theorem and_r {S : Type} {o : Option S} {f g : S → Bool} (h : o.map (fun s => f s && g s) = some true) : o.map g = some true := by
  cases o with
  | none => cases h
  | some s =>
    have e : (f s && g s) = true := Option.some.inj h
    rw [Bool.and_eq_true] at e
    exact congrArg some e.2
theorem ob_parts {S : Type} {o : Option S} {kf : S → PySem.W.Frag} {fa : List He.Fa} {fn : List DefZ} {ex : Exs} {fs : List Str}
    (hA : o.map (fun s => ex.all fun f => f (filT (kf s) fs)) = some true) (hB : o.map (fun s => fa.all fun f => f.ok (filT (kf s) fs)) = some true) (hC : o.map (fun s => fn.all fun d => d.ok (filT (kf s) fs)) = some true)
    (hD : o.map (fun s => tabB fs (kf s) (filT (kf s) fs) (csT (kf s) fs)) = some true) (hE : o.map (fun s => fn.map fun d => fnZ (filT (kf s) fs) (d.ad (filT (kf s) fs))) = some (fn.map fun z => z.d.val)) :
    o.map (fun s => obsT fa fn ex fs (kf s)) = some (valZ fn) := map2_of (and2_of (and2_of hA (and2_of hB hC)) hD) hE
end Z

namespace Z
open PySem PySem.Spec PyProof.Rows L2
def top (i : Nat) : Stmt := PySem.Challenge.pw_shortspans_k05_whole_styles_refused.main.body.getD i (.Pass ⟨0, 0, 0, 0⟩)
def clsB (s : Stmt) : List Stmt := match s with
  | .ClassDef _ _ _ b _ _ _ _ _ _ _ => b
  | _ => []
def meth (i j : Nat) : Stmt := (clsB (top i)).getD j (.Pass ⟨0, 0, 0, 0⟩)
def dd__law_begin : DefZ := ⟨fun K => He.ga K "_law_begin", ⟨("_law_begin", none), "_law_begin", "_law_begin", defArgs (top 44), defBody (top 44), defScope (top 44), [], []⟩⟩
def dd__law_mixed : DefZ := ⟨fun K => He.ga K "_law_mixed", ⟨("_law_mixed", none), "_law_mixed", "_law_mixed", defArgs (top 43), defBody (top 43), defScope (top 43), [], []⟩⟩
def dd__law_draw : DefZ := ⟨fun K => He.ga K "_law_draw", ⟨("_law_draw", none), "_law_draw", "_law_draw", defArgs (top 45), defBody (top 45), defScope (top 45), [], []⟩⟩
def dd__law_condition : DefZ := ⟨fun K => He.ga K "_law_condition", ⟨("_law_condition", none), "_law_condition", "_law_condition", defArgs (top 48), defBody (top 48), defScope (top 48), [], []⟩⟩
def dd__law_keep : DefZ := ⟨fun K => He.ga K "_law_keep", ⟨("_law_keep", none), "_law_keep", "_law_keep", defArgs (top 49), defBody (top 49), defScope (top 49), [], []⟩⟩
def dd__law_rules : DefZ := ⟨fun K => He.ga K "_law_rules", ⟨("_law_rules", none), "_law_rules", "_law_rules", defArgs (top 50), defBody (top 50), defScope (top 50), [], []⟩⟩
def dd__law_of : DefZ := ⟨fun K => He.ga K "_law_of", ⟨("_law_of", none), "_law_of", "_law_of", defArgs (top 46), defBody (top 46), defScope (top 46), [], []⟩⟩
def dd__law_row : DefZ := ⟨fun K => He.ga K "_law_row", ⟨("_law_row", none), "_law_row", "_law_row", defArgs (top 52), defBody (top 52), defScope (top 52), [], []⟩⟩
def dd__law_due : DefZ := ⟨fun K => He.ga K "_law_due", ⟨("_law_due", none), "_law_due", "_law_due", defArgs (top 51), defBody (top 51), defScope (top 51), [], []⟩⟩
def dd__law_raised : DefZ := ⟨fun K => He.ga K "_law_raised", ⟨("_law_raised", none), "_law_raised", "_law_raised", defArgs (top 47), defBody (top 47), defScope (top 47), [], []⟩⟩
def dd_is_among : DefZ := ⟨fun K => He.ga K "is_among", ⟨("is_among", none), "is_among", "is_among", defArgs (top 21), defBody (top 21), defScope (top 21), [], []⟩⟩
def dd_need_base : DefZ := ⟨fun K => He.ga K "need_base", ⟨("need_base", none), "need_base", "need_base", defArgs (top 23), defBody (top 23), defScope (top 23), [], []⟩⟩
def dd_are_digits : DefZ := ⟨fun K => He.ga K "are_digits", ⟨("are_digits", none), "are_digits", "are_digits", defArgs (top 26), defBody (top 26), defScope (top 26), [], []⟩⟩
def dd_is_condition : DefZ := ⟨fun K => He.ga K "is_condition", ⟨("is_condition", none), "is_condition", "is_condition", defArgs (top 35), defBody (top 35), defScope (top 35), [], []⟩⟩
def dd_is_keep : DefZ := ⟨fun K => He.ga K "is_keep", ⟨("is_keep", none), "is_keep", "is_keep", defArgs (top 36), defBody (top 36), defScope (top 36), [], []⟩⟩
def dd_is_rule_in : DefZ := ⟨fun K => He.ga K "is_rule_in", ⟨("is_rule_in", none), "is_rule_in", "is_rule_in", defArgs (top 37), defBody (top 37), defScope (top 37), [], []⟩⟩
def dd_Style___init__ : DefZ := ⟨fun K => He.ma K (He.ga K "Style") "__init__", ⟨("__init__", none), "__init__", "Style.__init__", defArgs (meth 41 0), defBody (meth 41 0), defScope (meth 41 0), [], []⟩⟩
def dd_Style_of : DefZ := ⟨fun K => recA K "classmethod" "Style" "of", ⟨("of", none), "of", "Style.of", defArgs (meth 41 1), defBody (meth 41 1), defScope (meth 41 1), [], []⟩⟩
def dd_Style___len__ : DefZ := ⟨fun K => He.ma K (He.ga K "Style") "__len__", ⟨("__len__", none), "__len__", "Style.__len__", defArgs (meth 41 8), defBody (meth 41 8), defScope (meth 41 8), [], []⟩⟩
def dd_law : DefZ := ⟨fun K => He.ga K "law", ⟨("law", none), "law", "law", defArgs (top 53), defBody (top 53), defScope (top 53), [], []⟩⟩
def dd_BadBase___init__ : DefZ := ⟨fun K => He.ma K (He.ga K "BadBase") "__init__", ⟨("__init__", none), "__init__", "BadBase.__init__", defArgs (meth 3 0), defBody (meth 3 0), defScope (meth 3 0), [], []⟩⟩
def dd_BadRule___init__ : DefZ := ⟨fun K => He.ma K (He.ga K "BadRule") "__init__", ⟨("__init__", none), "__init__", "BadRule.__init__", defArgs (meth 7 0), defBody (meth 7 0), defScope (meth 7 0), [], []⟩⟩
def dd_Style_base : DefZ := ⟨fun K => recA K "property" "Style" "base", ⟨("base", none), "base", "Style.base", defArgs (meth 41 2), defBody (meth 41 2), defScope (meth 41 2), [], []⟩⟩
def dd_Style_rules : DefZ := ⟨fun K => recA K "property" "Style" "rules", ⟨("rules", none), "rules", "Style.rules", defArgs (meth 41 3), defBody (meth 41 3), defScope (meth 41 3), [], []⟩⟩
def lamFs : List Str := ["law"]
def fn : List DefZ := [dd__law_begin, dd__law_mixed, dd__law_draw, dd__law_condition, dd__law_keep, dd__law_rules, dd__law_of, dd__law_row, dd__law_due, dd__law_raised, dd_is_among, dd_need_base, dd_are_digits, dd_is_condition, dd_is_keep, dd_is_rule_in, dd_Style___init__, dd_Style_of, dd_Style___len__, dd_law, dd_BadBase___init__, dd_BadRule___init__, dd_Style_base, dd_Style_rules]
def fa : List He.Fa := ([.glo "law", .cls "Style", .noat "Style" "own_base", .noat "Style" "own_rules", .str "FIGURES" "0123456789", .int "LEAST_BASE" 2, .int "MOST_BASE" 10, .int "MOST_CONDITIONS" 3, .int "MOST_ENDING" 2, .int "MOST_RULES" 8, .int "MOST_SIZE" 6, .glo "BadBase"] : List He.Fa) ++ ([.glo "BadDigits", .glo "BadEntry", .glo "BadManner", .glo "BadName", .glo "BadNumber", .glo "BadRange", .glo "BadReader", .glo "BadRule", .glo "BadText", .glo "Missing", .glo "NothingLeft", .glo "OtherBase"] : List He.Fa) ++ ([.glo "SpanError", .glo "TooMany", .free "all", .free "bool", .free "enumerate", .free "int", .free "isinstance", .free "len", .free "list", .free "min", .free "range", .free "repr"] : List He.Fa) ++ ([.free "str", .free "tuple", .noat "BadBase" "value", .noat "BadRule" "place", .glo "_law_begin", .glo "_law_mixed", .glo "_law_draw", .glo "_law_condition", .glo "_law_keep", .glo "_law_rules", .glo "_law_of", .glo "_law_row"] : List He.Fa) ++ ([.glo "_law_due", .glo "_law_raised", .glo "is_among", .glo "need_base", .glo "are_digits", .glo "is_condition", .glo "is_keep", .glo "is_rule_in", .glo "Style", .mkr "Style", .meth "Style" "__len__"] : List He.Fa)
def ex : Exs := ([xCat rCs ["SpanError", "TooMany", "Missing", "NothingLeft"], xKin rCs rDs, xSM, xXf ["BadText"] "line", xXf [] "most", xXf [] "name", xXf ["BadRule", "BadEntry"] "place", xXf rVs "value", xXf ["BadText"] "word", xSup "SpanError", xOex "BadBase", xInit "BadBase"] : List (PySem.W.Frag → Bool)) ++ ([xOex "BadRule", xInit "BadRule", xProp "Style" "base", xProp "Style" "rules", xCMet "Style" "of"] : List (PySem.W.Frag → Bool))
abbrev R : PySem.W.OpenRow := PySem.W.OpenLaw.row PySem.Challenge.rw_shortspans_k05_whole_styles_refused
abbrev hk : PySem.W.Hook := hookT 5 fa fn ex lamFs
def ob (s : PySem.W.SharedT) : He.AlD := obsT fa fn ex lamFs (He.frG (HandSHeadRun.getT s) (PySem.sysModules :: PySem.cStatics :: He.asD (HandSHeadRun.getT s) 5))
theorem ob_eq (s : PySem.W.SharedT) : ob s = hk.obs s.abs := obsT_eq (HandSHeadRun.getT_eq s)
def loose : List Str := (["_wall", "SpanError", "BadBase", "BadNumber", "BadDigits", "BadRange", "BadRule", "BadReader", "BadManner", "BadEntry"] : List Str) ++ (["BadName", "BadText", "OtherBase", "TooMany", "Missing", "NothingLeft", "FIGURES", "LEAST_BASE", "MOST_BASE", "is_among"] : List Str) ++ (["is_number", "need_base", "need_range", "figures_of", "are_digits", "length_of", "changed_in", "near_in", "MOST_RULES", "MOST_CONDITIONS"] : List Str) ++ (["MOST_SIZE", "MOST_ENDING", "is_condition", "is_keep", "is_rule_in", "holds", "number_in", "kept_by", "Style", "_law_mixed"] : List Str) ++ (["_law_begin", "_law_draw", "_law_of", "_law_raised", "_law_condition", "_law_keep", "_law_rules", "_law_due", "_law_row"] : List Str)
theorem run (w : World) : HandSHeadRun.RunEq R (PySem.W.view R.prog [53]) hk ob 8000 loose w := by
  intro os
  kernel_rfl
end Z
namespace Z
open PySem PySem.Spec PyProof.Rows L2
/-! ### common lemmas -/
/-- all that is there stays -/
def Ext (ah ah' : AH) : Prop := ∀ (m : Nat) (o : O), ah[m]? = some o → ah'[m]? = some o
theorem Ext.refl {ah : AH} : Ext ah ah := fun _ _ h => h
theorem Ext.trans {a b c : AH} (h : Ext a b) (k : Ext b c) : Ext a c := fun m o e => k m o (h m o e)
theorem Ext.push {ah : AH} (l : AH) : Ext ah (ah ++ l) := fun m o e => by
  rw [List.getElem?_append_left (List.getElem?_eq_some_iff.mp e).1]; exact e
theorem get_push (ah : AH) (o : O) : (ah ++ [o])[ah.length]? = some o := by simp
def among (d : D) (lo hi : Int) : Bool := match d with
  | .int i => decide (lo ≤ i) && decide (i ≤ hi)
  | _ => false
def isNum (d : D) : Bool := match d with
  | .int i => decide (1 ≤ i)
  | _ => false
theorem isTy_iff (t T : String) : isTy t T = (t == T || (t == "bool" && T == "int")) := rfl
theorem gIsi_of {d : D} {T t : String} {ah : AH} {q : QE} (h : tyD ah d = some t) (hT : T ∈ tyNames) (hq : q (.bl (isTy t T)) ah) : gIsi [d, .ty T] ah q := by
  unfold gIsi
  dsimp only
  rw [h]
  exact ⟨hT, hq⟩
theorem ty_not {ah : AH} {d : D} {t : String} (h : tyD ah d = some t) (hn : ∀ i, d ≠ .int i) (hb : ∀ i, d ≠ .bl i) : isTy t "int" = false := by
  cases d with
  | int i => exact (hn i rfl).elim
  | bl i => exact (hb i rfl).elim
  | ref n =>
    simp only [tyD] at h
    split at h <;> (try cases h) <;> decide
  | _ => first | (cases h; decide) | (simp only [tyD] at h; cases h)
theorem ite_t {p r : Prop} (h : p) : if true = true then p else r := by rw [if_pos rfl]; exact h
theorem ite_f {p r : Prop} (h : r) : if false = true then p else r := by rw [if_neg (by decide)]; exact h
theorem size_line {n : Nat} (h : n ≤ 16777216) : n ≤ sizeLine := h
theorem mul_small {i j : Int} (h : -(2 ^ 64) < j ∧ j < 2 ^ 64) : MulOk i j := .inl (.inr h)
theorem rangeD_len (i : Int) (n : Nat) : (rangeD i n).length = n := by simp [rangeD]
theorem figs : ("0123456789" : Str) = dg [0, 1, 2, 3, 4, 5, 6, 7, 8, 9] := by decide +kernel
theorem dg_ne {l : List Nat} (h : l ≠ []) : dg l ≠ ("" : Str) := fun e => h (dg_inj (l := l) (m := []) (by rw [e]; decide +kernel))
theorem signs_dg (l : List Nat) : signs (dg l) = l.map fun d => D.str (dg [d]) := by
  unfold signs
  rw [dg_cps, List.map_map]
  rfl
theorem cut_figs {b : Nat} (hb : b ≤ 10) : cutS (dg [0, 1, 2, 3, 4, 5, 6, 7, 8, 9]) none (some (b : Int)) = dg (List.range b) := by
  have h : ∀ b : Nat, b ≤ 10 → cutS (dg [0, 1, 2, 3, 4, 5, 6, 7, 8, 9]) none (some (b : Int)) = dg (List.range b) := by decide +kernel
  exact h b hb

theorem mem_figs {b d : Nat} (h : d < b) : (48 + d) ∈ (dg (List.range b)).cps.toList := by
  rw [dg_cps]
  exact List.mem_map.mpr ⟨d, List.mem_range.mpr h, rfl⟩
theorem figs_len : ("0123456789" : Str).length ≤ sizeLine := by decide +kernel
theorem all_rep (n : Nat) : List.replicate n (D.bl true) = (List.replicate n true).map D.bl := by simp
theorem index_figs {d : Nat} (h : d < 10) : Builtin.Str.occurrences ("0123456789" : Str) (dg [d]) 0 ("0123456789" : Str).length 1 = [d] := by
  have h0 : ∀ d : Nat, d < 10 → Builtin.Str.occurrences ("0123456789" : Str) (dg [d]) 0 ("0123456789" : Str).length 1 = [d] := by decide +kernel
  exact h0 d h
theorem div_small {i : Int} {b : Nat} (h2 : 2 ≤ b) (hb : b ≤ 10) : CDivW i b := ⟨by omega, by
  rw [Int.natAbs_natCast]
  have : b.log2 < 4 := (Nat.log2_lt (by omega)).mpr (by omega)
  omega⟩
theorem log2_pow_le {b m : Nat} (hb : b ≤ 10) (h2 : 2 ≤ b) (hm : m ≤ 1000) : (b ^ m).log2 < 4001 := by
  have h1 : b ^ m ≤ 16 ^ 1000 := Nat.le_trans (Nat.pow_le_pow_left (by omega) m) (Nat.pow_le_pow_right (by omega) hm)
  have h3 : (16 : Nat) ^ 1000 < 2 ^ 4001 := by decide +kernel
  exact (Nat.log2_lt (Nat.ne_of_gt (Nat.pow_pos (by omega)))).mpr (by omega)
theorem log2_le_of {n : Nat} (h : n < 2 ^ 2000) : n.log2 < 2001 := by
  by_cases hn : n = 0
  · subst hn; decide
  · exact (Nat.log2_lt hn).mpr (Nat.lt_of_lt_of_le h (Nat.pow_le_pow_right (by omega) (by omega)))
theorem div_pow {i : Int} {b m : Nat} (hb : b ≤ 10) (h2 : 2 ≤ b) (hm : m ≤ 1000) : CDivW i ((b ^ m : Nat) : Int) :=
  ⟨by have := Nat.pow_pos (n := m) (show 0 < b by omega); omega, by rw [Int.natAbs_natCast]; have := log2_pow_le hb h2 hm; omega⟩
theorem mul_pow {b m n : Nat} (hb : b ≤ 10) (h2 : 2 ≤ b) (hm : m ≤ 1000) (hn : n < 2 ^ 2000) : MulOk ((n / b ^ m : Nat) : Int) ((b ^ m : Nat) : Int) := by
  refine .inr ?_
  show _ + _ < _
  rw [Int.natAbs_natCast, Int.natAbs_natCast]
  have := log2_pow_le hb h2 hm
  have := log2_le_of (n := n / b ^ m) (Nat.lt_of_le_of_lt (Nat.div_le_self _ _) hn)
  omega
theorem head_dg {l : List Nat} (h : l ≠ []) : ∃ d t, l = d :: t := by
  cases l with
  | nil => exact (h rfl).elim
  | cons d t => exact ⟨d, t, rfl⟩
theorem at_zero (d : Nat) (t : List Nat) : atI (dg (d :: t)).cps.toList 0 = some (48 + d) := by
  rw [dg_cps]
  unfold atI ixN
  simp
theorem zero_sign (d : Nat) : ((⟨#[48 + d]⟩ : Str) = "0") ↔ d = 0 := by
  rw [show ("0" : Str) = ⟨#[48]⟩ from by decide +kernel]
  simp
theorem at_figs {d : Nat} (h : d < 10) : atI ("0123456789" : Str).cps.toList (d : Int) = some (48 + d) := by
  have h0 : ∀ d : Nat, d < 10 → atI ("0123456789" : Str).cps.toList (d : Int) = some (48 + d) := by decide +kernel
  exact h0 d h
def stD (c l a : D) : List (Key × D) := [(.inr "cells", c), (.inr "lefts", l), (.inr "at", a)]
theorem kn1 : (decide ((Sum.inr ("cells" : Str) : Key) = Sum.inr ("lefts" : Str))) = false := by decide +kernel
theorem kn2 : (decide ((Sum.inr ("cells" : Str) : Key) = Sum.inr ("at" : Str))) = false := by decide +kernel
theorem kn3 : (decide ((Sum.inr ("lefts" : Str) : Key) = Sum.inr ("at" : Str))) = false := by decide +kernel
theorem val_cells {c l a : D} : valD (stD c l a) (.inr "cells") = some c := by
  simp [valD, stD, List.find?]
theorem val_lefts {c l a : D} : valD (stD c l a) (.inr "lefts") = some l := by
  simp only [valD, stD, List.find?, kn1, decide_true, Option.map_some]
theorem val_at {c l a : D} : valD (stD c l a) (.inr "at") = some a := by
  simp only [valD, stD, List.find?, kn2, kn3, decide_true, Option.map_some]
theorem put_at {c l a a' : D} : putD (stD c l a) (.inr "at") a' = stD c l a' := by
  have h2 := of_decide_eq_false kn2
  have h3 := of_decide_eq_false kn3
  simp [putD, stD, h2, h3]
theorem made {c l a : D} : ([(Sum.inr "cells", c), (Sum.inr "lefts", l), (Sum.inr "at", a)] : List (Key × D)).foldl (fun acc kv => putD acc kv.1 kv.2) [] = stD c l a := by
  have h1 := of_decide_eq_false kn1
  have h2 := of_decide_eq_false kn2
  have h3 := of_decide_eq_false kn3
  simp [putD, stD, h1, h2, h3]
structure SI (a : Nat) (ah : AH) : Prop where
  ex : ∃ cs ls : List Int, ah[1]? = some (.lst (cs.map D.int)) ∧ ah[2]? = some (.lst (ls.map D.int)) ∧ ah[3]? = some (.dct (stD (.ref 1) (.ref 2) (.int a))) ∧ cs.length = ls.length ∧ 0 < cs.length
/-- all behind the state stays -/
def Fm (ah ah' : AH) : Prop := ∀ (m : Nat) (o : O), 4 ≤ m → ah[m]? = some o → ah'[m]? = some o
theorem Fm.refl {ah : AH} : Fm ah ah := fun _ _ _ h => h
theorem Fm.trans {a b c : AH} (h : Fm a b) (k : Fm b c) : Fm a c := fun m o l e => k m o l (h m o l e)
theorem Ext.fm {ah ah' : AH} (h : Ext ah ah') : Fm ah ah' := fun m o _ e => h m o e
theorem SI.ext {a : Nat} {ah ah' : AH} (h : SI a ah) (e : Ext ah ah') : SI a ah' := by
  obtain ⟨cs, ls, h1, h2, h3, r⟩ := h.ex
  exact ⟨cs, ls, e _ _ h1, e _ _ h2, e _ _ h3, r⟩
theorem SI.len {a : Nat} {ah : AH} (h : SI a ah) : 4 ≤ ah.length := by
  obtain ⟨cs, ls, h1, h2, h3, r⟩ := h.ex
  exact (List.getElem?_eq_some_iff.mp h3).1
theorem Fm.set {ah : AH} {n : Nat} {o : O} (h : n < 4) : Fm ah (ah.set n o) := fun m o' hm e => by
  rw [List.getElem?_set_ne (by omega)]; exact e
theorem atI_nat {α : Type} {l : List α} {i : Nat} : atI l (i : Int) = l[i]? := by
  unfold atI ixN
  rw [if_pos (by omega)]
  by_cases h : i < l.length
  · rw [if_pos (by omega)]; simp
  · rw [if_neg (by omega), List.getElem?_eq_none (by omega)]; rfl
theorem ixN_nat {n i : Nat} (h : i < n) : ixN n (i : Int) = some i := by
  unfold ixN
  rw [if_pos (by omega), if_pos (by omega)]; simp
theorem cut_take (l : List Nat) (k : Nat) : cutS (dg l) none (some (k : Int)) = dg (l.take k) := by
  apply str_ext
  unfold cutS
  rw [HT.sIx_none, HT.sIx_nat, dg_len, dg_cps, dg_cps, List.map_take]
  simp only [List.drop_zero, Nat.sub_zero]
  rw [← List.length_map (f := fun x => 48 + x) (as := l), List.take_eq_take_iff]
  simp
theorem cut_drop (l : List Nat) (k : Nat) : cutS (dg l) (some (k : Int)) none = dg (l.drop k) := by
  apply str_ext
  unfold cutS
  rw [HT.sIx_none, HT.sIx_nat, dg_len, dg_cps, dg_cps, List.map_drop]
  by_cases h : k ≤ l.length
  · rw [Nat.min_eq_left h]
    exact List.take_of_length_le (by simp)
  · rw [Nat.min_eq_right (by omega), Nat.sub_self, List.take_zero, List.drop_eq_nil_of_le (by simp; omega)]
theorem ds_take {b n m : Nat} (hb : 2 ≤ b) (hm : m ≤ (Z.ds b n).length) : vl b ((Z.ds b n).take ((Z.ds b n).length - m)) = n / b ^ m ∧ vl b ((Z.ds b n).drop ((Z.ds b n).length - m)) = n % b ^ m := by
  have h := vl_split hb (l := (Z.ds b n).take ((Z.ds b n).length - m)) (m := (Z.ds b n).drop ((Z.ds b n).length - m)) (fun d hd => ds_lt hb n d (List.mem_of_mem_drop hd))
  rw [List.take_append_drop, vl_ds hb, List.length_drop] at h
  rw [show (Z.ds b n).length - ((Z.ds b n).length - m) = m by omega] at h
  exact ⟨h.1.symm, h.2.symm⟩
theorem pick {m r : Nat} {ah : AH} {q : QE} {l : List D} {d : D} (h : ah[m]? = some (.lst l)) (e : l[r]? = some d) (hq : q d ah) : fAt (.ref m) (.int r) ah q := by
  simp only [fAt, fIx, h, atI_nat, e]
  exact hq
theorem ds_short {b : Nat} (hb : 2 ≤ b) : ∀ (k n : Nat), n < b ^ k → (Z.ds b n).length ≤ k
  | 0, n, h => by
    have : n = 0 := by simpa using h
    subst this; rw [ds_zero]; simp
  | k + 1, n, h => by
    by_cases hn : n = 0
    · subst hn; rw [ds_zero]; simp
    · rw [ds_pos hb (by omega)]
      have : n / b < b ^ k := Nat.div_lt_of_lt_mul (by rw [Nat.pow_succ, Nat.mul_comm] at h; exact h)
      have := ds_short hb k (n / b) this
      simp; omega
theorem textFrom_le : ∀ (ts : List Str) (k : Nat) (acc : Str), (textFrom k acc ts).length ≤ acc.length + (ts.map fun t => t.length + 2).sum
  | [], k, acc => by simp [textFrom]
  | t :: ts, k, acc => by
    unfold textFrom
    have h := textFrom_le ts (k + 1) (acc ++ (if k > 0 then ", " else "" : String) ++ t)
    have e : ∀ a b : Str, (a ++ b).length = a.length + b.length := fun a b => by
      show (a.cps ++ b.cps).size = _
      rw [Array.size_append]; rfl
    rw [e, e] at h
    have e2 : (Str.ofString (if k > 0 then ", " else "" : String)).length ≤ 2 := by
      split <;> decide +kernel
    rw [List.map_cons, List.sum_cons]
    omega
theorem shown_list (ps : List PyData) : (PyData.list ps).shown.length ≤ 2 + ((PyData.shownAll ps).map fun t => t.length + 2).sum := by
  show (listText _).length ≤ _
  unfold listText
  have h := textFrom_le (PyData.shownAll ps) 0 "["
  have e : ∀ a b : Str, (a ++ b).length = a.length + b.length := fun a b => by
    show (a.cps ++ b.cps).size = _
    rw [Array.size_append]; rfl
  rw [e]
  have e1 : ("[" : Str).length = 1 := by decide +kernel
  have e2 : ("]" : Str).length = 1 := by decide +kernel
  rw [e2]
  rw [e1] at h
  omega
theorem log2_nat {n k : Nat} (hk : 0 < k) (h : n < 2 ^ k) : n.log2 < k := by
  by_cases hn : n = 0
  · subst hn; exact hk
  · exact (Nat.log2_lt hn).mpr h
theorem gRepr_of {d : D} {p : PyData} {ah : AH} {q : QE} (h : pd 20 ah d = some p) (h1 : p.showable = true) (h2 : p.depth ≤ 64) (h3 : p.shown.length ≤ sizeLine) (hq : q (.str p.shown) ah) : gRepr [d] ah q := by
  unfold gRepr
  dsimp only
  rw [pd_pdz ah 20 d p h]
  exact ⟨h1, h2, h3, hq⟩
theorem gRepr_ofZ {d : D} {p : PyData} {ah : AH} {q : QE} (h : pdz 20 ah d = some p) (h1 : p.showable = true) (h2 : p.depth ≤ 64) (h3 : p.shown.length ≤ sizeLine) (hq : q (.str p.shown) ah) : gRepr [d] ah q := by
  unfold gRepr
  dsimp only
  rw [h]
  exact ⟨h1, h2, h3, hq⟩
theorem pds_ints (f : Nat) (ah : AH) : ∀ ns : List Int, pds (pd f ah) (ns.map D.int) = some (ns.map PyData.int)
  | [] => rfl
  | n :: ns => by
    rw [List.map_cons]
    unfold pds
    rw [pds_ints f ah ns]
    cases f <;> rfl
theorem canLay_ints : ∀ ns : List Int, PyData.canLay0 (.list (ns.map PyData.int)) = true := fun ns => by
  show PyData.canLayAll0 _ = true
  induction ns with
  | nil => rfl
  | cons n ns ih => show (true && PyData.canLayAll0 _) = true; rw [ih]; rfl
theorem eqv_ints : ∀ l m : List Int, PyData.eqvAll (l.map PyData.int) (m.map PyData.int) = decide (l = m)
  | [], [] => rfl
  | [], _ :: _ => rfl
  | _ :: _, [] => rfl
  | a :: l, b :: m => by
    show (PyData.eqv (.int a) (.int b) && PyData.eqvAll _ _) = _
    rw [eqv_ints l m, Bool.eq_iff_iff]
    show (decide (a = b) && _) = true ↔ _
    simp
theorem depth_ints : ∀ ns : List Int, PyData.depthAll (ns.map PyData.int) = 0
  | [] => rfl
  | n :: ns => by show max 0 (PyData.depthAll _) = 0; rw [depth_ints ns]; rfl
theorem pd_ints {n : Nat} {ah : AH} {l : List Int} (f : Nat) (h : ah[n]? = some (.lst (l.map D.int))) : pd (f + 1) ah (.ref n) = some (.list (l.map PyData.int)) := by
  show (match ah[n]? with | some (.lst xs) => (pds (pd f ah) xs).map PyData.list | _ => none) = _
  rw [h]
  show (pds (pd f ah) (l.map D.int)).map PyData.list = _
  rw [pds_ints]; rfl
theorem shaped_ints (l : List Int) : SeqAt.shaped (.list (l.map PyData.int)) = true := by
  unfold SeqAt.shaped
  rw [Bool.and_eq_true]
  refine ⟨canLay_ints l, decide_eq_true ?_⟩
  show PyData.depthAll _ + 1 ≤ 64
  rw [depth_ints]; decide
/-- two lists of numbers compared -/
theorem eq_ints {neg : Bool} {n m : Nat} {ah : AH} {q : QE} {l l' : List Int} (h : ah[n]? = some (.lst (l.map D.int))) (h' : ah[m]? = some (.lst (l'.map D.int))) (hq : q (.bl (neg != decide (l = l'))) ah) : fEq neg (.ref n) (.ref m) ah q := by
  refine ⟨_, _, pd_ints 19 h, pd_ints 19 h', shaped_ints l, shaped_ints l', ?_⟩
  have e : PyData.eqv (.list (l.map PyData.int)) (.list (l'.map PyData.int)) = decide (l = l') := eqv_ints l l'
  rw [e]; exact hq
end Z
namespace Z
open PySem PySem.Spec PyProof.Rows L2
def sp__law_mixed : DSp := fun ds ah q _ => ∃ (c : Int) (k : Nat), ds = [.int c, .int k] ∧ k < 2 ^ 60 ∧ ∀ r : Nat, r < 2147483647 → q (.int r) ah
def w__law_mixed : WS := (wSeq (wAsg (wBin fMod (wCal gInt (wCons (wVar 0) wNil)) (wC (.int 2147483647))) (gN 0)) (wRet (wBin fMod (wBin fMul (wBin fMod (wBin fAdd (wBin fAdd (wBin fMul (wVar 0) (wBin fAdd (wC (.int 48271)) (wBin fMul (wBin fMul (wC (.int 2)) (wVar 1)) (wVar 1)))) (wBin fMul (wC (.int 69621)) (wVar 1))) (wC (.int 11))) (wC (.int 2147483647))) (wC (.int 69621))) (wC (.int 2147483629)))))
theorem wp__law_mixed (ds : List D) (ah : AH) (q : QE) (x : QX) (h : sp__law_mixed ds ah q x) : w__law_mixed (startD 2 ds) ah { nx := fun _ ah' => q .non ah', rt := q } (fun e _ ah' => x e ah') := by
  obtain ⟨c, k, rfl, hk, hq⟩ := h
  show w__law_mixed [some (.int c), some (.int k)] ah _ _
  refine ⟨by decide, ?_⟩
  simp only [wRet, wBin, wVar, wC, gt, st, fAdd, fMul, fMod]
  have p1 : 0 ≤ c % 2147483647 := Int.emod_nonneg _ (by decide)
  have p2 : c % 2147483647 < 2147483647 := Int.emod_lt_of_pos _ (by decide)
  refine ⟨.inl (.inl ⟨by decide, by decide⟩), mul_small ⟨by omega, by omega⟩, .inl (.inl ⟨by omega, by omega⟩), .inl (.inl ⟨by decide, by decide⟩), by decide, mul_small ⟨by decide, by decide⟩, by decide, ?_⟩
  generalize ((c % 2147483647 * (48271 + 2 * (k : Int) * k) + 69621 * k + 11) % 2147483647 * 69621) = y
  have q1 : 0 ≤ y % 2147483629 := Int.emod_nonneg _ (by decide)
  have q2 : y % 2147483629 < 2147483629 := Int.emod_lt_of_pos _ (by decide)
  have := hq (y % 2147483629).toNat (by omega)
  rw [Int.toNat_of_nonneg q1] at this
  exact this
def sp__law_begin : DSp := fun ds ah q _ => ∃ ns : List Int, ds = [.frl (ns.map D.int)] ∧ ns.length ≤ 1000 ∧ ah = [] ∧ ∀ ah', SI 0 ah' → q (.ref 3) ah'
def w__law_begin : WS := (wSeq (wAsg (wIfE (wTst (wBin (fEq true) (wVar 0) (wLst wNil))) (wCal gList (wCons (wVar 0) wNil)) (wLst (wCons (wC (.int 0)) wNil))) (gN 1)) (wRet (wDict (wdCons (wC (.str "cells")) (wVar 1) (wdCons (wC (.str "lefts")) (wLc [2] (wIter (wVar 1)) (gN 2) wYes (wIfE (wTst (wBin fGe (wVar 2) (wBin fPow (wC (.int 10)) (wC (.int 18))))) (wVar 2) (wC (.int 0)))) (wdCons (wC (.str "at")) (wC (.int 0)) wdNil))))))
theorem lefts_loop {s : D} {q : QE} : ∀ (ns : List Int) (ms : List Int) (cs : D) (ah : AH) (l0 : List D), ah[1]? = some (.lst l0) → ms.length + ns.length ≤ 1000 → (∀ ls : List Int, ls.length = ms.length + ns.length → newL (ls.map D.int) ah q) →
    lcGo (fun ah' => ah'[1]? = some (.lst l0)) (gN 2) wYes (wIfE (wTst (wBin fGe (wVar 2) (wBin fPow (wC (.int 10)) (wC (.int 18))))) (wVar 2) (wC (.int 0))) [some s, some cs, none] q (ns.map D.int) (ms.map D.int) ah
  | [], ms, cs, ah, l0, h0, hl, h => ⟨h0, h ms (by simp)⟩
  | n :: ns, ms, cs, ah, l0, h0, hl, h => by
    simp only [List.length_cons] at hl h
    refine ⟨h0, by rw [List.length_map]; exact show _ < 16777216 by omega, ⟨by decide, by decide, by decide⟩, ?_⟩
    have ih : ∀ m : Int, lcGo (fun ah' => ah'[1]? = some (.lst l0)) (gN 2) wYes (wIfE (wTst (wBin fGe (wVar 2) (wBin fPow (wC (.int 10)) (wC (.int 18))))) (wVar 2) (wC (.int 0))) [some s, some cs, none] q (ns.map D.int) (ms.map D.int ++ [.int m]) ah := fun m => by
      have := lefts_loop (s := s) (q := q) ns (ms ++ [m]) cs ah l0 h0 (by simp; omega) (fun ls e => h ls (by simp at e; omega))
      rw [List.map_append] at this
      exact this
    show (if (decide ((10 : Int) ^ (18 : Int).toNat ≤ n)) = true then _ else _ : Prop)
    split
    · exact ih n
    · exact ih 0
theorem wp__law_begin (ds : List D) (ah : AH) (q : QE) (x : QX) (h : sp__law_begin ds ah q x) : w__law_begin (startD 3 ds) ah { nx := fun _ ah' => q .non ah', rt := q } (fun e _ ah' => x e ah') := by
  obtain ⟨ns, rfl, hl, rfl, hq⟩ := h
  show w__law_begin [some (.frl (ns.map D.int)), none, none] [] _ _
  unfold w__law_begin
  simp only [wSeq, wAsg, wIfE, wTst, wBin, wVar, gt, wLst, wNil, newL, fEq]
  refine ⟨by decide, ?_⟩
  have key : ∀ cs : List Int, 0 < cs.length → cs.length ≤ 1000 → (wRet (wDict (wdCons (wC (.str "cells")) (wVar 1) (wdCons (wC (.str "lefts")) (wLc [2] (wIter (wVar 1)) (gN 2) wYes (wIfE (wTst (wBin fGe (wVar 2) (wBin fPow (wC (.int 10)) (wC (.int 18))))) (wVar 2) (wC (.int 0)))) (wdCons (wC (.str "at")) (wC (.int 0)) wdNil)))))
      [some (.frl (ns.map D.int)), some (.ref 1), none] [.lst [], .lst (cs.map D.int)] { nx := fun _ ah' => q .non ah', rt := q } (fun e _ ah' => x e ah') := by
    intro cs h0 h1
    simp only [wRet, wDict, wdCons, wC, wVar, gt, wLc, wIter, fIter, List.getElem?_cons_succ, List.getElem?_cons_zero, nos, no]
    refine lefts_loop cs [] _ _ _ rfl (by simpa using h1) fun ls e => ?_
    simp only [List.length_nil, Nat.zero_add] at e
    refine ⟨show 3 ≤ 15 by decide, ?_⟩
    show q (.ref 3) _
    refine hq _ ⟨cs, ls, rfl, rfl, ?_, e.symm, h0⟩
    show some (O.dct _) = some (O.dct _)
    rw [made]
    rfl
  refine ⟨.list (ns.map PyData.int), .list [], ?_, rfl, ?_, by decide, ?_⟩
  · show (pds (pd 19 _) (ns.map D.int)).map PyData.list = _
    rw [pds_ints]; rfl
  · unfold SeqAt.shaped
    rw [Bool.and_eq_true]
    refine ⟨canLay_ints ns, decide_eq_true ?_⟩
    show PyData.depthAll _ + 1 ≤ 64
    rw [depth_ints]; decide
  · cases ns with
    | nil =>
      refine ite_f ?_
      simp only [wLst, wCons, wC, wNil, newL, gN, st]
      exact ⟨by decide, key [0] (by decide) (by decide)⟩
    | cons n ns =>
      refine ite_t ?_
      simp only [wCal, wCons, wVar, gt, wNil, gList, newL, gN, st]
      exact key (n :: ns) (by simp) hl
def sp__law_draw : DSp := fun ds ah q _ => ∃ many a : Nat, ds = [.ref 3, .int many] ∧ 0 < many ∧ many < 2 ^ 64 ∧ SI a ah ∧ a < 2 ^ 50 ∧ ∀ (r : Nat) (ah' : AH), r < many → SI (a + 1) ah' → Fm ah ah' → q (.int r) ah'
def w__law_draw : WS := (wSeq (wAsg (wBin fAt (wVar 0) (wC (.str "at"))) (gN 2)) (wSeq (wPut (wBin fAdd (wVar 2) (wC (.int 1))) (wVar 0) (wC (.str "at"))) (wSeq (wAsg (wBin fMod (wCal gInt (wCons (wVar 2) wNil)) (wCal gLen (wCons (wBin fAt (wVar 0) (wC (.str "cells"))) wNil))) (gN 3)) (wSeq (wAsg (wBin fAt (wBin fAt (wVar 0) (wC (.str "lefts"))) (wVar 3)) (gN 4)) (wSeq (wIf (wTst (wBin fGt (wVar 4) (wC (.int 0)))) (wSeq (wPut (wBin fDiv (wVar 4) (wVar 1)) (wBin fAt (wVar 0) (wC (.str "lefts"))) (wVar 3)) (wRet (wBin fMod (wCal gInt (wCons (wVar 4) wNil)) (wVar 1)))) wNext) (wSeq (wAsg (wCall sp__law_mixed [] (wCons (wCall sp__law_mixed [] (wCons (wBin fAt (wBin fAt (wVar 0) (wC (.str "cells"))) (wVar 3)) (wCons (wVar 2) wNil))) (wCons (wBin fAdd (wC (.int 40)) (wVar 2)) wNil))) (gN 5)) (wRet (wBin fMod (wBin fDiv (wCal gInt (wCons (wBin fAdd (wBin fMul (wVar 5) (wC (.int 2147483647))) (wCall sp__law_mixed [] (wCons (wVar 5) (wCons (wBin fAdd (wC (.int 7)) (wVar 2)) wNil)))) wNil)) (wC (.int 64))) (wVar 1)))))))))
theorem wp__law_draw (ds : List D) (ah : AH) (q : QE) (x : QX) (h : sp__law_draw ds ah q x) : w__law_draw (startD 6 ds) ah { nx := fun _ ah' => q .non ah', rt := q } (fun e _ ah' => x e ah') := by
  obtain ⟨many, a, rfl, h0, h1, hs, ha, hq⟩ := h
  obtain ⟨cs, ls, e1, e2, e3, el, ec⟩ := hs.ex
  show w__law_draw [some (.ref 3), some (.int many), none, none, none, none] ah _ _
  have hd : CDivW 0 many := ⟨by omega, by
    rw [Int.natAbs_natCast]
    have : many.log2 < 64 := (Nat.log2_lt (by omega)).mpr h1
    omega⟩
  unfold w__law_draw
  simp only [wSeq, wAsg, wBin, wVar, wC, gt, st, gN, fAt, e3, val_at, wPut, fAdd, fPut, put_at]
  refine ⟨show 3 < 16777216 by decide, ?_⟩
  generalize hah : ah.set 3 (O.dct (stD (D.ref 1) (D.ref 2) (D.int (↑a + 1)))) = ah1
  have f1 : Fm ah ah1 := by subst hah; exact Fm.set (by decide)
  have l3 : 3 < ah.length := (List.getElem?_eq_some_iff.mp e3).1
  have g1 : ah1[1]? = some (.lst (cs.map D.int)) := by subst hah; rw [List.getElem?_set_ne (by decide)]; exact e1
  have g2 : ah1[2]? = some (.lst (ls.map D.int)) := by subst hah; rw [List.getElem?_set_ne (by decide)]; exact e2
  have g3 : ah1[3]? = some (.dct (stD (.ref 1) (.ref 2) (.int ((a + 1 : Nat) : Int)))) := by subst hah; rw [List.getElem?_set_self l3]; simp
  simp only [wCal, wCons, wNil, wVar, gt, st, gInt, wBin, wC, fAt, g3, val_cells, gLen, g1, fMod, List.length_map]
  refine ⟨by omega, ?_⟩
  rw [← Int.natCast_emod]
  generalize hp : a % cs.length = p
  have hpl : p < cs.length := by subst hp; exact Nat.mod_lt _ ec
  simp only [g3, val_lefts, fIx, g2, atI_nat, List.getElem?_map]
  rw [List.getElem?_eq_getElem (by omega : p < ls.length)]
  simp only [Option.map_some]
  generalize hle : ls[p] = lf
  simp only [wIf, wTst, wBin, wVar, wC, gt, fGt]
  by_cases c : 0 < lf
  · rw [decide_eq_true c]
    refine ite_t ?_
    simp only [wSeq, wPut, wBin, wVar, wC, gt, fDiv, fAt, g3, val_lefts, fPut, g2, List.length_map]
    refine ⟨hd, ?_⟩
    rw [ixN_nat (by omega)]
    simp only [wRet, wBin, wCal, wCons, wNil, wVar, gt, gInt, fMod]
    refine ⟨by omega, ?_⟩
    have q1 : 0 ≤ lf % many := Int.emod_nonneg _ (by omega)
    have q2 : lf % many < many := Int.emod_lt_of_pos _ (by omega)
    have := hq (lf % many).toNat (ah1.set 2 (O.lst ((ls.map D.int).set p (.int (lf / many))))) (by omega) ⟨cs, ls.set p (lf / many), by rw [List.getElem?_set_ne (by decide)]; exact g1, by rw [List.getElem?_set_self (List.getElem?_eq_some_iff.mp g2).1, List.map_set], by rw [List.getElem?_set_ne (by decide)]; exact g3, by simp [el], ec⟩ (f1.trans (Fm.set (by decide)))
    rw [Int.toNat_of_nonneg q1] at this
    exact this
  · rw [decide_eq_false c]
    refine ite_f ?_
    simp only [wNext, wAsg, wCall, wCons, wNil, wBin, wVar, wC, gt, st, gN, fAt, g3, val_cells, fIx, g1, atI_nat, List.getElem?_map]
    rw [List.getElem?_eq_getElem hpl]
    simp only [Option.map_some, fAdd]
    refine ⟨cs[p], a, rfl, by omega, fun r1 hr1 => ⟨r1, 40 + a, by simp, by omega, fun r2 hr2 => ?_⟩⟩
    simp only [wRet, wBin, wCal, wCons, wNil, wVar, wC, gt, st, wCall, fMul, fAdd]
    refine ⟨mul_small ⟨by decide, by decide⟩, r2, 7 + a, by simp, by omega, fun r3 hr3 => ?_⟩
    simp only [gInt, fDiv, fMod]
    refine ⟨⟨by decide, by decide⟩, by omega, ?_⟩
    generalize ((r2 : Int) * 2147483647 + r3) / 64 = y
    have q1 : 0 ≤ y % many := Int.emod_nonneg _ (by omega)
    have q2 : y % many < many := Int.emod_lt_of_pos _ (by omega)
    have := hq (y % many).toNat ah1 (by omega) ⟨cs, ls, g1, g2, g3, el, ec⟩ f1
    rw [Int.toNat_of_nonneg q1] at this
    exact this
end Z
namespace Z
open PySem PySem.Spec PyProof.Rows L2
def sp_is_among : DSp := fun ds ah q _ => ∃ d lo hi, ds = [d, .int lo, .int hi] ∧ (tyD ah d).isSome = true ∧ q (.bl (among d lo hi)) ah
def w_is_among : WS := (wRet ((wAndV (wCal gIsi (wCons (wVar 0) (wCons (wC (.ty "int")) wNil))) (wAndV (wNotV (wCal gIsi (wCons (wVar 0) (wCons (wC (.ty "bool")) wNil)))) (wChain fLe fLe (wVar 1) (wVar 0) (wVar 2))))))
theorem wp_is_among (ds : List D) (ah : AH) (q : QE) (x : QX) (h : sp_is_among ds ah q x) : w_is_among (startD 3 ds) ah { nx := fun _ ah' => q .non ah', rt := q } (fun e _ ah' => x e ah') := by
  obtain ⟨d, lo, hi, rfl, ht, hq⟩ := h
  show w_is_among [some d, some (.int lo), some (.int hi)] ah _ _
  obtain ⟨t, ht⟩ := Option.isSome_iff_exists.mp ht
  unfold w_is_among
  simp only [wRet, wAndV, wCal, wCons, wVar, wC, wNil, gt]
  refine gIsi_of ht (by decide) ?_
  by_cases h1 : ∃ i, d = .int i
  · obtain ⟨i, rfl⟩ := h1
    cases ht
    show (wNotV _ _ _ _ _ : Prop)
    simp only [wNotV, wCal, wCons, wVar, wC, wNil, gt]
    refine gIsi_of (t := "int") rfl (by decide) ?_
    show (wChain _ _ _ _ _ _ _ _ _ : Prop)
    simp only [wChain, wVar, gt, fLe]
    unfold among at hq
    by_cases c : lo ≤ i
    · simp only [decide_eq_true c]
      simpa [c] using hq
    · simp only [decide_eq_false c]
      simpa [c] using hq
  · by_cases h2 : ∃ i, d = .bl i
    · obtain ⟨i, rfl⟩ := h2
      cases ht
      show (wNotV _ _ _ _ _ : Prop)
      simp only [wNotV, wCal, wCons, wVar, wC, wNil, gt]
      refine gIsi_of (t := "bool") rfl (by decide) ?_
      exact hq
    · rw [ty_not ht (fun i e => h1 ⟨i, e⟩) (fun i e => h2 ⟨i, e⟩)]
      have : among d lo hi = false := by
        unfold among
        split
        · exact (h1 ⟨_, rfl⟩).elim
        · rfl
      rw [this] at hq
      exact hq
def sp_is_number : DSp := fun ds ah q _ => ∃ d, ds = [d] ∧ (tyD ah d).isSome = true ∧ q (.bl (isNum d)) ah
def w_is_number : WS := (wRet ((wAndV (wCal gIsi (wCons (wVar 0) (wCons (wC (.ty "int")) wNil))) (wAndV (wNotV (wCal gIsi (wCons (wVar 0) (wCons (wC (.ty "bool")) wNil)))) (wBin fGe (wVar 0) (wC (.int 1)))))))
theorem wp_is_number (ds : List D) (ah : AH) (q : QE) (x : QX) (h : sp_is_number ds ah q x) : w_is_number (startD 1 ds) ah { nx := fun _ ah' => q .non ah', rt := q } (fun e _ ah' => x e ah') := by
  obtain ⟨d, rfl, ht, hq⟩ := h
  show w_is_number [some d] ah _ _
  obtain ⟨t, ht⟩ := Option.isSome_iff_exists.mp ht
  unfold w_is_number
  simp only [wRet, wAndV, wCal, wCons, wVar, wC, wNil, gt]
  refine gIsi_of ht (by decide) ?_
  by_cases h1 : ∃ i, d = .int i
  · obtain ⟨i, rfl⟩ := h1
    cases ht
    show (wNotV _ _ _ _ _ : Prop)
    simp only [wNotV, wCal, wCons, wVar, wC, wNil, gt]
    refine gIsi_of (t := "int") rfl (by decide) ?_
    exact hq
  · by_cases h2 : ∃ i, d = .bl i
    · obtain ⟨i, rfl⟩ := h2
      cases ht
      show (wNotV _ _ _ _ _ : Prop)
      simp only [wNotV, wCal, wCons, wVar, wC, wNil, gt]
      refine gIsi_of (t := "bool") rfl (by decide) ?_
      exact hq
    · rw [ty_not ht (fun i e => h1 ⟨i, e⟩) (fun i e => h2 ⟨i, e⟩)]
      have : isNum d = false := by
        unfold isNum
        split
        · exact (h1 ⟨_, rfl⟩).elim
        · rfl
      rw [this] at hq
      exact hq
/-! ### need_base, need_number, need_range -/
def sp_need_base : DSp := fun ds ah q x => ∃ d, ds = [d] ∧ (tyD ah d).isSome = true ∧ (if among d 2 10 = true then q .non ah else x ("BadBase", [("value", d)]) ah)
def w_need_base : WS := (wIf (wNot (wTst (wCall sp_is_among [] (wCons (wVar 0) (wCons (wC (.int 2)) (wCons (wC (.int 10)) wNil)))))) (wRaise "BadBase" ["value"] (wCons (wVar 0) wNil)) wNext)
theorem wp_need_base (ds : List D) (ah : AH) (q : QE) (x : QX) (h : sp_need_base ds ah q x) : w_need_base (startD 1 ds) ah { nx := fun _ ah' => q .non ah', rt := q } (fun e _ ah' => x e ah') := by
  obtain ⟨d, rfl, ht, h1⟩ := h
  refine ⟨d, 2, 10, rfl, ht, ?_⟩
  cases hb : among d 2 10 with
  | true => rw [hb, if_pos rfl] at h1; exact h1
  | false => rw [hb, if_neg (by decide)] at h1; exact ⟨rfl, by decide, h1⟩
def sp_need_number : DSp := fun ds ah q x => ∃ d, ds = [d] ∧ (tyD ah d).isSome = true ∧ (if isNum d = true then q .non ah else x ("BadNumber", [("value", d)]) ah)
def w_need_number : WS := (wIf (wNot (wTst (wCall sp_is_number [] (wCons (wVar 0) wNil)))) (wRaise "BadNumber" ["value"] (wCons (wVar 0) wNil)) wNext)
theorem wp_need_number (ds : List D) (ah : AH) (q : QE) (x : QX) (h : sp_need_number ds ah q x) : w_need_number (startD 1 ds) ah { nx := fun _ ah' => q .non ah', rt := q } (fun e _ ah' => x e ah') := by
  obtain ⟨d, rfl, ht, h1⟩ := h
  refine ⟨d, rfl, ht, ?_⟩
  cases hb : isNum d with
  | true => rw [hb, if_pos rfl] at h1; exact h1
  | false => rw [hb, if_neg (by decide)] at h1; exact ⟨rfl, by decide, h1⟩
/-! ### digits of a thing -/
def areB (b : Nat) (d : D) : Bool := match d with
  | .str z => decide (z ≠ "") && z.cps.toList.all fun c => decide (48 ≤ c) && decide (c < 48 + b)
  | _ => false
def short (d : D) : Prop := ∀ z, d = .str z → z.length < sizeLine
def sp_are_digits : DSp := fun ds ah q _ => ∃ (b : Nat) (d : D), ds = [.int b, d] ∧ 2 ≤ b ∧ b ≤ 10 ∧ (tyD ah d).isSome = true ∧ short d ∧ ∀ ah', Ext ah ah' → q (.bl (areB b d)) ah'
def w_are_digits : WS := (wRet ((wAndV (wCal gIsi (wCons (wVar 1) (wCons (wC (.ty "str")) wNil))) (wAndV (wBin (fEq true) (wVar 1) (wC (.str ""))) (wCal gAll (wCons (wLc [2] (wIter (wVar 1)) (gN 2) wYes (wBin (fIn false) (wVar 2) (wSl (wC (.str "0123456789")) wNoPart (wPart (wVar 0))))) wNil))))))
theorem mem_figs_iff {b c : Nat} : c ∈ (dg (List.range b)).cps.toList ↔ 48 ≤ c ∧ c < 48 + b := by
  rw [dg_cps, List.mem_map]
  constructor
  · rintro ⟨d, hd, rfl⟩
    have := List.mem_range.mp hd
    omega
  · rintro ⟨h1, h2⟩
    exact ⟨c - 48, List.mem_range.mpr (by omega), by omega⟩
theorem digsB_loop {b : Nat} {t : D} {q : QE} (hb : b ≤ 10) : ∀ (l : List Nat) (acc : List D) (ah : AH), acc.length + l.length < sizeLine → newL (acc ++ l.map fun c => .bl (decide (48 ≤ c) && decide (c < 48 + b))) ah q →
    lcGo (fun _ => True) (gN 2) wYes (wBin (fIn false) (wVar 2) (wSl (wC (.str "0123456789")) wNoPart (wPart (wVar 0)))) [some (.int b), some t, none] q (l.map fun c => D.str ⟨#[c]⟩) acc ah
  | [], acc, ah, _, h => ⟨trivial, by simpa using h⟩
  | c :: l, acc, ah, h2, h => by
    have hl : acc.length < sizeLine := by simp at h2; omega
    have ih := digsB_loop (t := t) (q := q) hb l (acc ++ [.bl (decide (48 ≤ c) && decide (c < 48 + b))]) ah (by simp at h2 ⊢; omega) (by
      rw [List.append_assoc]; exact h)
    refine ⟨trivial, hl, figs_len, c, rfl, ?_⟩
    have e : (false != decide (c ∈ (cutS ("0123456789" : Str) none (some (b : Int))).cps.toList)) = (decide (48 ≤ c) && decide (c < 48 + b)) := by
      rw [figs, cut_figs hb, Bool.eq_iff_iff]
      simp only [Bool.false_bne, decide_eq_true_eq, Bool.and_eq_true]
      exact mem_figs_iff
    rw [e]
    exact ih
theorem wp_are_digits (ds : List D) (ah : AH) (q : QE) (x : QX) (h : sp_are_digits ds ah q x) : w_are_digits (startD 3 ds) ah { nx := fun _ ah' => q .non ah', rt := q } (fun e _ ah' => x e ah') := by
  obtain ⟨b, d, rfl, h2, hb, ht, hs, hq⟩ := h
  show w_are_digits [some (.int b), some d, none] ah _ _
  obtain ⟨t, ht⟩ := Option.isSome_iff_exists.mp ht
  unfold w_are_digits
  simp only [wRet, wAndV, wCal, wCons, wVar, wC, wNil, gt]
  refine gIsi_of ht (by decide) ?_
  by_cases hd : ∃ z, d = .str z
  · obtain ⟨z, rfl⟩ := hd
    cases ht
    rw [show isTy "str" "str" = true from by decide]
    simp only [wBin, wVar, wC, gt, fEq]
    by_cases hz : z = ""
    · rw [decide_eq_true hz]
      have := hq _ Ext.refl
      unfold areB at this
      simpa [hz] using this
    · rw [decide_eq_false hz]
      show (wLc _ _ _ _ _ _ _ _ _ : Prop)
      simp only [wLc, wIter, wVar, gt, fIter, signs]
      refine digsB_loop hb z.cps.toList [] ah (by simpa [Str.length] using hs z rfl) ?_
      simp only [newL, gAll, get_push, List.nil_append]
      refine ⟨z.cps.toList.map fun c => decide (48 ≤ c) && decide (c < 48 + b), by rw [List.map_map]; rfl, ?_⟩
      have := hq _ (Ext.push [O.lst (z.cps.toList.map fun c => D.bl (decide (48 ≤ c) && decide (c < 48 + b)))])
      unfold areB at this
      rw [List.all_map]
      simpa [hz, Function.comp_def] using this
  · have hf : isTy t "str" = false := by
      cases d with
      | str z => exact (hd ⟨z, rfl⟩).elim
      | ref n =>
        simp only [tyD] at ht
        split at ht <;> (try cases ht) <;> decide
      | _ => first | (cases ht; decide) | (simp only [tyD] at ht; cases ht)
    have hb2 : areB b d = false := by
      unfold areB
      split
      · exact (hd ⟨_, rfl⟩).elim
      · rfl
    rw [hf]
    have := hq _ Ext.refl
    rw [hb2] at this
    exact this
/-! ### the number of digits -/
def sp_length_of : DSp := fun ds ah q _ => ∃ b n : Nat, ds = [.int b, .int n] ∧ 2 ≤ b ∧ b ≤ 10 ∧ q (.int ((Z.ds b n).length : Nat)) ah
def w_length_of : WS := (wSeq (wAsg (wC (.int 0)) (gN 2)) (wSeq (wWhile (wTst (wBin fGt (wVar 1) (wC (.int 0)))) (wSeq (wAsg (wBin fDiv (wVar 1) (wVar 0)) (gN 1)) (wAug 2 fIAdd (wC (.int 1))))) (wRet (wVar 2))))
theorem wp_length_of (ds : List D) (ah : AH) (q : QE) (x : QX) (h : sp_length_of ds ah q x) : w_length_of (startD 3 ds) ah { nx := fun _ ah' => q .non ah', rt := q } (fun e _ ah' => x e ah') := by
  obtain ⟨b, n, rfl, h2, hb, hq⟩ := h
  show w_length_of [some (.int b), some (.int n), none] ah _ _
  unfold w_length_of
  simp only [wSeq, wAsg, wC, gN, st]
  refine ⟨fun m env ah' => ah' = ah ∧ ∃ f : Nat, env = [some (.int b), some (.int m), some (.int f)] ∧ f + (Z.ds b m).length = (Z.ds b n).length, ⟨n, rfl, 0, rfl, by simp⟩, ?_⟩
  rintro m env ah' ⟨rfl, f, rfl, hf⟩
  simp only [wTst, wBin, wVar, wC, gt, fGt]
  by_cases hm : 0 < m
  · rw [decide_eq_true (by omega : (0 : Int) < m)]
    refine ⟨div_small h2 hb, m / b, Nat.div_lt_self hm h2, rfl, f + 1, ?_, ?_⟩
    · simp [Int.natCast_ediv, st]
    · rw [ds_pos h2 hm] at hf
      simp at hf
      omega
  · rw [decide_eq_false (by omega : ¬ (0 : Int) < m)]
    have : m = 0 := by omega
    subst this
    rw [ds_zero] at hf
    have e : f = (Z.ds b n).length := by simpa using hf
    subst e
    exact hq
end Z
namespace Z
open PySem PySem.Spec PyProof.Rows L2
/-! ### things that may be asked about -/
mutual
def okD (ah : AH) : D → Bool
  | .non => true
  | .bl _ => true
  | .int _ => true
  | .str z => decide (z.length < sizeLine)
  | .tup l => okDs ah l
  | .ref n => (tyD ah (.ref n)).isSome
  | _ => false
def okDs (ah : AH) : List D → Bool
  | [] => true
  | d :: l => okD ah d && okDs ah l
end
theorem okDs_mem {ah : AH} : ∀ {l : List D}, okDs ah l = true → ∀ d ∈ l, okD ah d = true
  | [], _, d, h => by simp at h
  | e :: l, h, d, hd => by
    unfold okDs at h
    rw [Bool.and_eq_true] at h
    rcases List.mem_cons.mp hd with rfl | hd
    · exact h.1
    · exact okDs_mem h.2 d hd
theorem okD_ty {ah : AH} {d : D} (h : okD ah d = true) : (tyD ah d).isSome = true := by
  cases d <;> first | rfl | (unfold okD at h; exact h) | (unfold okD at h; cases h)
theorem okD_short {ah : AH} {d : D} (h : okD ah d = true) : short d := fun z e => by
  subst e
  unfold okD at h
  exact of_decide_eq_true h
theorem tyD_ext {ah ah' : AH} (e : Ext ah ah') {d : D} {t : String} (h : tyD ah d = some t) : tyD ah' d = some t := by
  cases d with
  | ref n =>
    simp only [tyD] at h ⊢
    cases hn : ah[n]? with
    | none => rw [hn] at h; cases h
    | some o => rw [e n o hn]; rw [hn] at h; exact h
  | _ => exact h
mutual
theorem okD_ext {ah ah' : AH} (e : Ext ah ah') : ∀ {d : D}, okD ah d = true → okD ah' d = true
  | .non, h => rfl
  | .bl _, h => rfl
  | .int _, h => rfl
  | .str _, h => h
  | .tup l, h => by unfold okD at h ⊢; exact okDs_ext e h
  | .ref n, h => by
    unfold okD at h ⊢
    obtain ⟨t, ht⟩ := Option.isSome_iff_exists.mp h
    rw [tyD_ext e ht]; rfl
  | .ty _, h => by unfold okD at h; cases h
  | .glo _, h => by unfold okD at h; cases h
  | .fn _ _ _ _ _, h => by unfold okD at h; cases h
  | .frl _, h => by unfold okD at h; cases h
theorem okDs_ext {ah ah' : AH} (e : Ext ah ah') : ∀ {l : List D}, okDs ah l = true → okDs ah' l = true
  | [], h => rfl
  | d :: l, h => by
    unfold okDs at h ⊢
    rw [Bool.and_eq_true] at h ⊢
    exact ⟨okD_ext e h.1, okDs_ext e h.2⟩
end
def isNon (d : D) : Bool := match d with
  | .non => true
  | _ => false
theorem fIs_non {ah : AH} {d : D} {q : QE} (h : okD ah d = true) (hq : q (.bl (isNon d)) ah) : fIs false d .non ah q := by
  cases d <;> first | exact hq | (unfold okD at h; cases h)
theorem ty_tup {ah : AH} {d : D} {t : String} (h : tyD ah d = some t) (hn : ∀ l, d ≠ .tup l) : isTy t "tuple" = false := by
  cases d with
  | tup l => exact (hn l rfl).elim
  | ref n =>
    simp only [tyD] at h
    split at h <;> (try cases h) <;> decide
  | _ => first | (cases h; decide) | (simp only [tyD] at h; cases h)
theorem ty_str {ah : AH} {d : D} {t : String} (h : tyD ah d = some t) (hn : ∀ z, d ≠ .str z) : isTy t "str" = false := by
  cases d with
  | str l => exact (hn l rfl).elim
  | ref n =>
    simp only [tyD] at h
    split at h <;> (try cases h) <;> decide
  | _ => first | (cases h; decide) | (simp only [tyD] at h; cases h)
theorem tt : isTy "tuple" "tuple" = true := by decide
theorem ts : isTy "str" "str" = true := by decide
/-! ### is_keep -/
def keepB (d : D) : Bool := match d with
  | .tup [.str k] => decide (k = "all")
  | .tup [.str k, x] => (decide (k = "changed") || decide (k = "last")) && among x 1 6
  | _ => false
def sp_is_keep : DSp := fun ds ah q _ => ∃ d, ds = [d] ∧ okD ah d = true ∧ q (.bl (keepB d)) ah
def w_is_keep : WS := (wSeq (wIf ((wOr (wNot (wTst (wCal gIsi (wCons (wVar 0) (wCons (wC (.ty "tuple")) wNil))))) (wOr (wTst (wBin (fEq false) (wCal gLen (wCons (wVar 0) wNil)) (wC (.int 0)))) (wNot (wTst (wCal gIsi (wCons (wBin fAt (wVar 0) (wC (.int 0))) (wCons (wC (.ty "str")) wNil)))))))) (wRet (wC (.bl false))) wNext) (wSeq (wIf (wTst (wBin (fEq false) (wBin fAt (wVar 0) (wC (.int 0))) (wC (.str "all")))) (wRet (wBin (fEq false) (wCal gLen (wCons (wVar 0) wNil)) (wC (.int 1)))) wNext) (wRet ((wAndV (wBin (fIn false) (wBin fAt (wVar 0) (wC (.int 0))) (wTup (wCons (wC (.str "changed")) (wCons (wC (.str "last")) wNil)))) (wAndV (wBin (fEq false) (wCal gLen (wCons (wVar 0) wNil)) (wC (.int 2))) (wCall sp_is_among [] (wCons (wBin fAt (wVar 0) (wC (.int 1))) (wCons (wC (.int 1)) (wCons (wC (.int 6)) wNil))))))))))
theorem keep_never {d : D} : keepB d = false ∨ (∃ k, d = .tup [.str k]) ∨ ∃ k x, d = .tup [.str k, x] := by
  unfold keepB
  split
  · exact .inr (.inl ⟨_, rfl⟩)
  · exact .inr (.inr ⟨_, _, rfl⟩)
  · exact .inl rfl
theorem at0 {α : Type} {a : α} {l : List α} : atI (a :: l) 0 = some a := by unfold atI ixN; simp
theorem at1 {α : Type} {a b : α} {l : List α} : atI (a :: b :: l) 1 = some b := by
  have := atI_nat (l := a :: b :: l) (i := 1)
  simpa using this
theorem at2 {α : Type} {a b c : α} {l : List α} : atI (a :: b :: c :: l) 2 = some c := by
  have := atI_nat (l := a :: b :: c :: l) (i := 2)
  simpa using this
theorem neall : ("all" : Str) ≠ "changed" ∧ ("all" : Str) ≠ "last" := by decide +kernel
theorem wp_is_keep (ds : List D) (ah : AH) (q : QE) (x : QX) (h : sp_is_keep ds ah q x) : w_is_keep (startD 1 ds) ah { nx := fun _ ah' => q .non ah', rt := q } (fun e _ ah' => x e ah') := by
  obtain ⟨d, rfl, ok, hq⟩ := h
  show w_is_keep [some d] ah _ _
  obtain ⟨t, ht⟩ := Option.isSome_iff_exists.mp (okD_ty ok)
  unfold w_is_keep
  simp only [wSeq, wIf, wOr, wNot, wTst, wCal, wCons, wVar, wC, wNil, gt, wBin]
  refine gIsi_of ht (by decide) ?_
  by_cases hd : ∃ l, d = .tup l
  · obtain ⟨l, rfl⟩ := hd
    cases ht
    simp only [tt, Bool.not_true, Bool.false_eq_true, if_false, gLen, fEq]
    have okl := okDs_mem (by unfold okD at ok; exact ok)
    cases l with
    | nil =>
      simp only [List.length_nil]
      exact hq
    | cons a l =>
      rw [decide_eq_false (by simp only [List.length_cons]; omega)]
      simp only [bne_self_eq_false, Bool.false_eq_true, if_false, fAt, fIx, at0]
      obtain ⟨ta, hta⟩ := Option.isSome_iff_exists.mp (okD_ty (okl a (by simp)))
      refine gIsi_of hta (by decide) ?_
      by_cases ha : ∃ z, a = .str z
      · obtain ⟨z, rfl⟩ := ha
        cases hta
        simp only [ts, Bool.not_true, Bool.false_eq_true, if_false, wNext, wIf, wTst, wBin, wVar, wC, gt, fAt, fIx, at0, fEq]
        by_cases hz : z = "all"
        · rw [decide_eq_true hz]
          refine ite_t ?_
          simp only [wRet, wBin, wCal, wCons, wNil, wVar, wC, gt, gLen, fEq]
          have e : keepB (.tup (.str z :: l)) = decide (((.str z :: l : List D).length : Int) = 1) := by
            subst hz
            match l with
            | [] => rfl
            | [y] =>
              have e1 : keepB (.tup [.str "all", y]) = ((decide (("all" : Str) = "changed") || decide (("all" : Str) = "last")) && among y 1 6) := rfl
              rw [e1, decide_eq_false neall.1, decide_eq_false neall.2, decide_eq_false (by simp)]; rfl
            | _ :: _ :: r => rw [decide_eq_false (by simp only [List.length_cons]; omega)]; rfl
          rw [e] at hq
          rw [Bool.false_bne]
          exact hq
        · rw [decide_eq_false hz]
          refine ite_f ?_
          simp only [wRet, wAndV, wBin, wCal, wCons, wNil, wVar, wC, wTup, gt, fAt, fIx, at0]
          refine ⟨show 2 ≤ 16777216 by decide, rfl, rfl, ?_⟩
          have e0 : (false != [D.str "changed", D.str "last"].any fun y => eqF y (.str z)) = (decide (z = "changed") || decide (z = "last")) := by
            simp only [Bool.false_bne, List.any_cons, List.any_nil, Bool.or_false, eqF]
            rw [Bool.eq_iff_iff]
            simp only [Bool.or_eq_true, beq_iff_eq, decide_eq_true_eq]
            exact ⟨fun h => h.imp Eq.symm Eq.symm, fun h => h.imp Eq.symm Eq.symm⟩
          rw [e0]
          match l, okl, hq with
          | [], _, hq =>
            have e : keepB (.tup [.str z]) = false := decide_eq_false hz
            rw [e] at hq
            cases (decide (z = "changed") || decide (z = "last")) <;> exact hq
          | [y], okl, hq =>
            cases hk : (decide (z = "changed") || decide (z = "last")) with
            | false =>
              have e : keepB (.tup [.str z, y]) = false := by show ((decide (z = "changed") || decide (z = "last")) && _) = false; rw [hk]; rfl
              rw [e] at hq
              exact hq
            | true =>
              have e : keepB (.tup [.str z, y]) = among y 1 6 := by show ((decide (z = "changed") || decide (z = "last")) && _) = _; rw [hk]; rfl
              rw [e] at hq
              simp only [gLen, fEq, List.length_cons, List.length_nil]
              exact ⟨y, 1, 6, rfl, okD_ty (okl y (by simp)), hq⟩
          | y :: y2 :: r, _, hq =>
            have e : keepB (.tup (.str z :: y :: y2 :: r)) = false := rfl
            rw [e] at hq
            cases (decide (z = "changed") || decide (z = "last")) with
            | false => exact hq
            | true =>
              simp only [gLen, fEq]
              rw [decide_eq_false (by simp only [List.length_cons]; omega)]
              exact hq
      · rw [ty_str hta (fun z e => ha ⟨z, e⟩)]
        have : keepB (.tup (a :: l)) = false := by
          unfold keepB
          split
          · rename_i e; cases e; exact (ha ⟨_, rfl⟩).elim
          · rename_i e; cases e; exact (ha ⟨_, rfl⟩).elim
          · rfl
        rw [this] at hq
        exact hq
  · rw [ty_tup ht (fun l e => hd ⟨l, e⟩)]
    have : keepB d = false := by
      unfold keepB
      split
      · exact (hd ⟨_, rfl⟩).elim
      · exact (hd ⟨_, rfl⟩).elim
      · rfl
    rw [this] at hq
    exact hq
end Z
namespace Z
open PySem PySem.Spec PyProof.Rows L2
/-! ### is_condition -/
def le2 (d : D) : Bool := match d with
  | .str z => decide (z.length ≤ 2)
  | _ => false
def amongD (y lo : D) : Bool := match lo with
  | .int i => among y i 6
  | _ => false
def condB (b : Nat) (d : D) : Bool := match d with
  | .tup [.str k, x] => if k = "ends" then areB b x && le2 x else if k = "near" then among x 0 6 else false
  | .tup [.str k, x, y] => (decide (k = "length") || decide (k = "changed")) && (among x 1 6 && (isNon y || amongD y x))
  | _ => false
def sp_is_condition : DSp := fun ds ah q _ => ∃ (b : Nat) (d : D), ds = [.int b, d] ∧ 2 ≤ b ∧ b ≤ 10 ∧ okD ah d = true ∧ ∀ ah', Ext ah ah' → q (.bl (condB b d)) ah'
def w_is_condition : WS := (wSeq (wIf ((wOr (wNot (wTst (wCal gIsi (wCons (wVar 1) (wCons (wC (.ty "tuple")) wNil))))) (wOr (wNot (wTst (wChain fLe fLe (wC (.int 2)) (wCal gLen (wCons (wVar 1) wNil)) (wC (.int 3))))) (wNot (wTst (wCal gIsi (wCons (wBin fAt (wVar 1) (wC (.int 0))) (wCons (wC (.ty "str")) wNil)))))))) (wRet (wC (.bl false))) wNext) (wSeq (wIf (wTst (wBin (fEq false) (wBin fAt (wVar 1) (wC (.int 0))) (wC (.str "ends")))) (wRet ((wAndV (wBin (fEq false) (wCal gLen (wCons (wVar 1) wNil)) (wC (.int 2))) (wAndV (wCall sp_are_digits [] (wCons (wVar 0) (wCons (wBin fAt (wVar 1) (wC (.int 1))) wNil))) (wBin fLe (wCal gLen (wCons (wBin fAt (wVar 1) (wC (.int 1))) wNil)) (wC (.int 2))))))) wNext) (wSeq (wIf (wTst (wBin (fEq false) (wBin fAt (wVar 1) (wC (.int 0))) (wC (.str "near")))) (wRet ((wAndV (wBin (fEq false) (wCal gLen (wCons (wVar 1) wNil)) (wC (.int 2))) (wCall sp_is_among [] (wCons (wBin fAt (wVar 1) (wC (.int 1))) (wCons (wC (.int 0)) (wCons (wC (.int 6)) wNil))))))) wNext) (wSeq (wIf ((wOr (wTst (wBin (fIn true) (wBin fAt (wVar 1) (wC (.int 0))) (wTup (wCons (wC (.str "length")) (wCons (wC (.str "changed")) wNil))))) (wOr (wTst (wBin (fEq true) (wCal gLen (wCons (wVar 1) wNil)) (wC (.int 3)))) (wNot (wTst (wCall sp_is_among [] (wCons (wBin fAt (wVar 1) (wC (.int 1))) (wCons (wC (.int 1)) (wCons (wC (.int 6)) wNil))))))))) (wRet (wC (.bl false))) wNext) (wRet ((wOrV (wBin (fIs false) (wBin fAt (wVar 1) (wC (.int 2))) (wC .non)) (wCall sp_is_among [] (wCons (wBin fAt (wVar 1) (wC (.int 2))) (wCons (wBin fAt (wVar 1) (wC (.int 1))) (wCons (wC (.int 6)) wNil)))))))))))
theorem kne : ("ends" : Str) ≠ "length" ∧ ("ends" : Str) ≠ "changed" ∧ ("near" : Str) ≠ "length" ∧ ("near" : Str) ≠ "changed" ∧ ("near" : Str) ≠ "ends" := by decide +kernel
theorem among_int {d : D} {lo hi : Int} (h : among d lo hi = true) : ∃ i, d = .int i := by
  unfold among at h
  split at h
  · exact ⟨_, rfl⟩
  · cases h
theorem areB_str {b : Nat} {d : D} (h : areB b d = true) : ∃ z, d = .str z := by
  unfold areB at h
  split at h
  · exact ⟨_, rfl⟩
  · cases h
theorem wp_is_condition (ds : List D) (ah : AH) (q : QE) (x : QX) (h : sp_is_condition ds ah q x) : w_is_condition (startD 2 ds) ah { nx := fun _ ah' => q .non ah', rt := q } (fun e _ ah' => x e ah') := by
  obtain ⟨b, d, rfl, h2, hb, ok, hq⟩ := h
  show w_is_condition [some (.int b), some d] ah _ _
  obtain ⟨t, ht⟩ := Option.isSome_iff_exists.mp (okD_ty ok)
  unfold w_is_condition
  simp only [wSeq, wIf, wOr, wNot, wTst, wCal, wCons, wVar, wC, wNil, gt, wBin, wChain]
  refine gIsi_of ht (by decide) ?_
  by_cases hd : ∃ l, d = .tup l
  · obtain ⟨l, rfl⟩ := hd
    cases ht
    have okl := okDs_mem (by unfold okD at ok; exact ok)
    simp only [tt, Bool.not_true, Bool.false_eq_true, if_false, gLen, fLe]
    have none_ : condB b (.tup l) = false → q (.bl false) ah := fun e => by have := hq _ Ext.refl; rw [e] at this; exact this
    by_cases hlo : 2 ≤ l.length
    · rw [decide_eq_true (by omega : (2 : Int) ≤ l.length)]
      simp only [decide_eq_true_eq]
      by_cases hhi : l.length ≤ 3
      · rw [decide_eq_true (by omega : (l.length : Int) ≤ 3)]
        obtain ⟨a, l', rfl⟩ : ∃ a l', l = a :: l' := by
          cases l with
          | nil => simp at hlo
          | cons a l' => exact ⟨a, l', rfl⟩
        simp only [Bool.not_true, Bool.false_eq_true, if_false, fAt, fIx, at0]
        obtain ⟨ta, hta⟩ := Option.isSome_iff_exists.mp (okD_ty (okl a (by simp)))
        refine gIsi_of hta (by decide) ?_
        by_cases ha : ∃ k, a = .str k
        · obtain ⟨k, rfl⟩ := ha
          cases hta
          simp only [ts, Bool.not_true, Bool.false_eq_true, if_false, wNext, wIf, wTst, wBin, wVar, wC, gt, fAt, fIx, at0, fEq]
          by_cases k1 : k = "ends"
          · subst k1
            rw [decide_eq_true rfl]
            refine ite_t ?_
            simp only [wRet, wAndV, wBin, wCal, wCons, wNil, wVar, wC, gt, gLen, fEq, wCall]
            match l', okl, hlo, hhi, hq, none_ with
            | [x], okl, _, _, hq, none_ =>
              simp only [List.length_cons, List.length_nil, fAt, fIx, at1]
              refine ⟨b, x, rfl, h2, hb, okD_ty (okl x (by simp)), okD_short (okl x (by simp)), fun ah' he => ?_⟩
              have e : condB b (.tup [.str "ends", x]) = (areB b x && le2 x) := by
                simp only [condB, if_pos]
              have hq' := hq ah' he
              rw [e] at hq'
              cases hx : areB b x with
              | false => rw [hx] at hq'; exact hq'
              | true =>
                rw [hx] at hq'
                obtain ⟨z, rfl⟩ := areB_str hx
                refine ⟨Nat.le_of_lt (okD_short (okl (.str z) (by simp)) z rfl), ?_⟩
                simp only [fLe]
                have : decide ((z.length : Int) ≤ 2) = le2 (.str z) := by
                  show _ = decide _
                  rw [Bool.eq_iff_iff]; simp only [decide_eq_true_eq]; omega
                rw [this]
                exact hq'
            | [x, y], _, _, _, hq, none_ =>
              simp only [List.length_cons, List.length_nil]
              refine none_ ?_
              rw [show condB b (.tup [.str "ends", x, y]) = ((decide (("ends" : Str) = "length") || decide (("ends" : Str) = "changed")) && (among x 1 6 && (isNon y || amongD y x))) from rfl]
              rw [decide_eq_false kne.1, decide_eq_false kne.2.1]; rfl
          · rw [decide_eq_false k1]
            refine ite_f ?_
            try simp only [wNext, wIf, wTst, wBin, wVar, wC, gt, fAt, fIx, at0, fEq]
            by_cases k2 : k = "near"
            · subst k2
              rw [decide_eq_true rfl]
              refine ite_t ?_
              simp only [wRet, wAndV, wBin, wCal, wCons, wNil, wVar, wC, gt, gLen, fEq, wCall]
              match l', okl, hlo, hhi, hq, none_ with
              | [x], okl, _, _, hq, none_ =>
                simp only [List.length_cons, List.length_nil, fAt, fIx, at1]
                have e : condB b (.tup [.str "near", x]) = among x 0 6 := by
                  rw [show condB b (.tup [.str "near", x]) = (if ("near" : Str) = "ends" then areB b x && le2 x else if ("near" : Str) = "near" then among x 0 6 else false) from rfl]
                  rw [if_neg kne.2.2.2.2, if_pos rfl]
                have hq' := hq _ Ext.refl
                rw [e] at hq'
                exact ⟨x, 0, 6, rfl, okD_ty (okl x (by simp)), hq'⟩
              | [x, y], _, _, _, hq, none_ =>
                simp only [List.length_cons, List.length_nil]
                refine none_ ?_
                rw [show condB b (.tup [.str "near", x, y]) = ((decide (("near" : Str) = "length") || decide (("near" : Str) = "changed")) && (among x 1 6 && (isNon y || amongD y x))) from rfl]
                rw [decide_eq_false kne.2.2.1, decide_eq_false kne.2.2.2.1]; rfl
            · rw [decide_eq_false k2]
              refine ite_f ?_
              try simp only [wNext, wIf, wOr, wTst, wBin, wVar, wC, wTup, wCons, wNil, gt, fAt, fIx, at0]
              refine ⟨show 2 ≤ 16777216 by decide, rfl, rfl, ?_⟩
              have e0 : (true != [D.str "length", D.str "changed"].any fun y => eqF y (.str k)) = !(decide (k = "length") || decide (k = "changed")) := by
                simp only [Bool.true_bne, List.any_cons, List.any_nil, Bool.or_false, eqF]
                congr 1
                rw [Bool.eq_iff_iff]
                simp only [Bool.or_eq_true, beq_iff_eq, decide_eq_true_eq]
                exact ⟨fun h => h.imp Eq.symm Eq.symm, fun h => h.imp Eq.symm Eq.symm⟩
              rw [e0]
              match l', okl, hlo, hhi, hq, none_ with
              | [x], okl, _, _, hq, none_ =>
                have e : condB b (.tup [.str k, x]) = false := by
                  rw [show condB b (.tup [.str k, x]) = (if k = "ends" then areB b x && le2 x else if k = "near" then among x 0 6 else false) from rfl]
                  rw [if_neg k1, if_neg k2]
                cases (decide (k = "length") || decide (k = "changed")) with
                | false => exact none_ e
                | true => exact none_ e
              | [x, y], okl, _, _, hq, none_ =>
                have e : condB b (.tup [.str k, x, y]) = ((decide (k = "length") || decide (k = "changed")) && (among x 1 6 && (isNon y || amongD y x))) := rfl
                cases hk : (decide (k = "length") || decide (k = "changed")) with
                | false => exact none_ (by rw [e, hk]; rfl)
                | true =>
                  rw [hk, Bool.true_and] at e
                  simp only [Bool.not_true, Bool.false_eq_true, if_false, wCal, wCons, wNil, wVar, gt, gLen, wC, fEq, List.length_cons, List.length_nil, wNot, wTst, wCall, wBin, fAt, fIx, at1]
                  refine ⟨x, 1, 6, rfl, okD_ty (okl x (by simp)), ?_⟩
                  cases hx : among x 1 6 with
                  | false => exact none_ (by rw [e, hx]; rfl)
                  | true =>
                    rw [hx, Bool.true_and] at e
                    obtain ⟨i, rfl⟩ := among_int hx
                    simp only [Bool.not_true, Bool.false_eq_true, if_false, wNext, wRet, wOrV, wBin, wVar, wC, gt, fAt, fIx, at1, at2, wCall, wCons, wNil]
                    refine fIs_non (okl y (by simp)) ?_
                    have hq' := hq _ Ext.refl
                    rw [e] at hq'
                    cases hy : isNon y with
                    | true => rw [hy] at hq'; exact hq'
                    | false => rw [hy] at hq'; exact ⟨y, i, 6, rfl, okD_ty (okl y (by simp)), hq'⟩
        · rw [ty_str hta (fun z e => ha ⟨z, e⟩)]
          refine none_ ?_
          unfold condB
          split
          · rename_i e; cases e; exact (ha ⟨_, rfl⟩).elim
          · rename_i e; cases e; exact (ha ⟨_, rfl⟩).elim
          · rfl
      · rw [decide_eq_false (by omega : ¬ (l.length : Int) ≤ 3)]
        refine none_ ?_
        unfold condB
        split
        · rename_i e; cases e; simp at hhi
        · rename_i e; cases e; simp at hhi
        · rfl
    · rw [decide_eq_false (by omega : ¬ (2 : Int) ≤ l.length)]
      refine none_ ?_
      unfold condB
      split
      · rename_i e; cases e; simp at hlo
      · rename_i e; cases e; simp at hlo
      · rfl
  · rw [ty_tup ht (fun l e => hd ⟨l, e⟩)]
    have : condB b d = false := by
      unfold condB
      split
      · exact (hd ⟨_, rfl⟩).elim
      · exact (hd ⟨_, rfl⟩).elim
      · rfl
    have hq' := hq _ Ext.refl
    rw [this] at hq'
    exact hq'
end Z
namespace Z
open PySem PySem.Spec PyProof.Rows L2
/-! ### is_rule_in -/
def ruleB (b : Nat) (d : D) : Bool := match d with
  | .tup [.tup cs, k] => decide (cs.length ≤ 3) && (cs.all (condB b) && keepB k)
  | _ => false
def sp_is_rule_in : DSp := fun ds ah q _ => ∃ (b : Nat) (d : D), ds = [.int b, d] ∧ 2 ≤ b ∧ b ≤ 10 ∧ okD ah d = true ∧ ∀ ah', Ext ah ah' → q (.bl (ruleB b d)) ah'
def w_is_rule_in : WS := (wSeq (wIf ((wOr (wNot (wTst (wCal gIsi (wCons (wVar 1) (wCons (wC (.ty "tuple")) wNil))))) (wOr (wTst (wBin (fEq true) (wCal gLen (wCons (wVar 1) wNil)) (wC (.int 2)))) (wNot (wTst (wCal gIsi (wCons (wBin fAt (wVar 1) (wC (.int 0))) (wCons (wC (.ty "tuple")) wNil)))))))) (wRet (wC (.bl false))) wNext) (wSeq (wIf ((wOr (wTst (wBin fGt (wCal gLen (wCons (wBin fAt (wVar 1) (wC (.int 0))) wNil)) (wC (.int 3)))) (wNot (wTst (wCal gAll (wCons (wLc [2] (wIter (wBin fAt (wVar 1) (wC (.int 0)))) (gN 2) wYes (wCall sp_is_condition [] (wCons (wVar 0) (wCons (wVar 2) wNil)))) wNil)))))) (wRet (wC (.bl false))) wNext) (wRet (wCall sp_is_keep [] (wCons (wBin fAt (wVar 1) (wC (.int 1))) wNil)))))
theorem conds_loop {b : Nat} {t : D} {q : QE} (h2 : 2 ≤ b) (hb : b ≤ 10) : ∀ (cs : List D) (acc : List D) (ah : AH), okDs ah cs = true → acc.length + cs.length < 100 → (∀ ah', Ext ah ah' → newL (acc ++ cs.map fun c => .bl (condB b c)) ah' q) →
    lcGo (fun _ => True) (gN 2) wYes (wCall sp_is_condition [] (wCons (wVar 0) (wCons (wVar 2) wNil))) [some (.int b), some t, none] q cs acc ah
  | [], acc, ah, _, _, h => ⟨trivial, by simpa using h ah Ext.refl⟩
  | c :: cs, acc, ah, hok, hl, h => by
    have ok := hok
    unfold okDs at ok
    rw [Bool.and_eq_true] at ok
    refine ⟨trivial, Nat.lt_of_lt_of_le (show acc.length < 100 by simp at hl; omega) (by decide), b, c, rfl, h2, hb, ok.1, fun ah' he => ?_⟩
    exact conds_loop h2 hb cs (acc ++ [.bl (condB b c)]) ah' (okDs_ext he ok.2) (by simp at hl ⊢; omega) fun ah2 he2 => by
      rw [List.append_assoc]; exact h ah2 (he.trans he2)
theorem wp_is_rule_in (ds : List D) (ah : AH) (q : QE) (x : QX) (h : sp_is_rule_in ds ah q x) : w_is_rule_in (startD 3 ds) ah { nx := fun _ ah' => q .non ah', rt := q } (fun e _ ah' => x e ah') := by
  obtain ⟨b, d, rfl, h2, hb, ok, hq⟩ := h
  show w_is_rule_in [some (.int b), some d, none] ah _ _
  obtain ⟨t, ht⟩ := Option.isSome_iff_exists.mp (okD_ty ok)
  have none_ : ruleB b d = false → q (.bl false) ah := fun e => by have := hq _ Ext.refl; rw [e] at this; exact this
  unfold w_is_rule_in
  simp only [wSeq, wIf, wOr, wNot, wTst, wCal, wCons, wVar, wC, wNil, gt, wBin]
  refine gIsi_of ht (by decide) ?_
  by_cases hd : ∃ l, d = .tup l
  · obtain ⟨l, rfl⟩ := hd
    cases ht
    have okl := okDs_mem (by unfold okD at ok; exact ok)
    simp only [tt, Bool.not_true, Bool.false_eq_true, if_false, gLen, fEq]
    by_cases hl : l.length = 2
    · rw [decide_eq_true (by omega : (l.length : Int) = 2)]
      obtain ⟨a, k, rfl⟩ : ∃ a k, l = [a, k] := by
        match l, hl with
        | [a, k], _ => exact ⟨a, k, rfl⟩
      simp only [bne_self_eq_false, Bool.false_eq_true, if_false, fAt, fIx, at0]
      obtain ⟨ta, hta⟩ := Option.isSome_iff_exists.mp (okD_ty (okl a (by simp)))
      refine gIsi_of hta (by decide) ?_
      by_cases ha : ∃ cs, a = .tup cs
      · obtain ⟨cs, rfl⟩ := ha
        cases hta
        have okc : okDs ah cs = true := by have := okl (.tup cs) (by simp); unfold okD at this; exact this
        have e : ruleB b (.tup [.tup cs, k]) = (decide (cs.length ≤ 3) && (cs.all (condB b) && keepB k)) := rfl
        simp only [tt, Bool.not_true, Bool.false_eq_true, if_false, wNext, wIf, wOr, wTst, wBin, wCal, wCons, wNil, wVar, wC, gt, fAt, fIx, at0, gLen, fGt]
        by_cases h3 : cs.length ≤ 3
        · rw [decide_eq_false (by omega : ¬ (3 : Int) < cs.length)]
          rw [decide_eq_true h3, Bool.true_and] at e
          simp only [Bool.false_eq_true, if_false, wNot, wTst, wCal, wCons, wNil, wLc, wIter, wBin, wVar, wC, gt, fAt, fIx, at0, fIter, nos, no]
          refine conds_loop h2 hb cs [] ah okc (by simp; omega) fun ah' he => ?_
          simp only [newL, gAll, get_push, List.nil_append]
          refine ⟨cs.map (condB b), by rw [List.map_map]; rfl, ?_⟩
          have ea : (cs.map (condB b)).all id = cs.all (condB b) := by rw [List.all_map]; rfl
          rw [ea]
          cases hc : cs.all (condB b) with
          | false =>
            have := hq _ (he.trans (Ext.push [O.lst (cs.map fun c => .bl (condB b c))]))
            rw [e, hc] at this
            exact this
          | true =>
            rw [hc, Bool.true_and] at e
            simp only [Bool.not_true, Bool.false_eq_true, if_false, wNext, wRet, wCall, wCons, wNil, wBin, wVar, wC, gt, fAt, fIx, at1]
            have hx := he.trans (Ext.push [O.lst (cs.map fun c => .bl (condB b c))])
            have := hq _ hx
            rw [e] at this
            exact ⟨k, rfl, okD_ext hx (okl k (by simp)), this⟩
        · rw [decide_eq_true (by omega : (3 : Int) < cs.length)]
          refine none_ ?_
          rw [e, decide_eq_false h3]; rfl
      · rw [ty_tup hta (fun z e => ha ⟨z, e⟩)]
        refine none_ ?_
        unfold ruleB
        split
        · rename_i e; cases e; exact (ha ⟨_, rfl⟩).elim
        · rfl
    · rw [decide_eq_false (by omega : ¬ (l.length : Int) = 2)]
      refine none_ ?_
      unfold ruleB
      split
      · rename_i e; cases e; simp at hl
      · rfl
  · rw [ty_tup ht (fun l e => hd ⟨l, e⟩)]
    refine none_ ?_
    unfold ruleB
    split
    · exact (hd ⟨_, rfl⟩).elim
    · rfl
end Z
namespace Z
open PySem PySem.Spec PyProof.Rows L2
/-! ### conditions as data -/
theorem pd_flat (f : Nat) (ah : AH) : (∀ z, pd f ah (.str z) = some (.str z)) ∧ (∀ i, pd f ah (.int i) = some (.int i)) ∧ pd f ah .non = some .none := by
  cases f <;> exact ⟨fun _ => rfl, fun _ => rfl, rfl⟩
theorem strOk_of {z : Str} (h : ∀ c ∈ z.cps.toList, c < 200) : PyData.strOk z = true := by
  unfold PyData.strOk
  rw [Array.all_eq_true]
  intro i hi
  have := h z.cps[i] (by simp)
  exact decide_eq_true (by omega)
theorem areB_ok {b : Nat} {z : Str} (hb : b ≤ 10) (h : areB b (.str z) = true) : PyData.strOk z = true := by
  unfold areB at h
  simp only [Bool.and_eq_true, List.all_eq_true, decide_eq_true_eq] at h
  exact strOk_of fun c hc => by have := (h.2 c hc).2; omega
theorem word_ok : PyData.strOk "ends" = true ∧ PyData.strOk "near" = true ∧ PyData.strOk "length" = true ∧ PyData.strOk "changed" = true := by decide +kernel
theorem cond_data {b : Nat} {c : D} (hb : b ≤ 10) (h : condB b c = true) (f : Nat) (ah : AH) : ∃ p, pd (f + 1) ah c = some p ∧ p.canLay0 = true ∧ p.depth ≤ 1 := by
  obtain ⟨f1, f2, f3⟩ := pd_flat f ah
  have two : ∀ (a d : D) (pa pb : PyData), pd f ah a = some pa → pd f ah d = some pb → pa.canLay0 = true → pb.canLay0 = true → pa.depth = 0 → pb.depth = 0 → ∃ p, pd (f + 1) ah (.tup [a, d]) = some p ∧ p.canLay0 = true ∧ p.depth ≤ 1 := fun a d pa pb e1 e2 c1 c2 d1 d2 => by
    refine ⟨.tuple [pa, pb], ?_, ?_, ?_⟩
    · show (pds (pd f ah) [a, d]).map PyData.tuple = _
      simp only [pds, e1, e2, Option.map_some]
    · show (PyData.canLay0 pa && (PyData.canLay0 pb && true)) = true
      rw [c1, c2]; rfl
    · show max pa.depth (max pb.depth 0) + 1 ≤ 1
      rw [d1, d2]; decide
  have three : ∀ (a d g : D) (pa pb pc : PyData), pd f ah a = some pa → pd f ah d = some pb → pd f ah g = some pc → pa.canLay0 = true → pb.canLay0 = true → pc.canLay0 = true → pa.depth = 0 → pb.depth = 0 → pc.depth = 0 → ∃ p, pd (f + 1) ah (.tup [a, d, g]) = some p ∧ p.canLay0 = true ∧ p.depth ≤ 1 := fun a d g pa pb pc e1 e2 e3 c1 c2 c3 d1 d2 d3 => by
    refine ⟨.tuple [pa, pb, pc], ?_, ?_, ?_⟩
    · show (pds (pd f ah) [a, d, g]).map PyData.tuple = _
      simp only [pds, e1, e2, e3, Option.map_some]
    · show (PyData.canLay0 pa && (PyData.canLay0 pb && (PyData.canLay0 pc && true))) = true
      rw [c1, c2, c3]; rfl
    · show max pa.depth (max pb.depth (max pc.depth 0)) + 1 ≤ 1
      rw [d1, d2, d3]; decide
  unfold condB at h
  split at h
  · rename_i k x
    split at h
    · rename_i hk
      subst hk
      rw [Bool.and_eq_true] at h
      obtain ⟨z, rfl⟩ := areB_str h.1
      exact two _ _ _ _ (f1 _) (f1 z) word_ok.1 (areB_ok hb h.1) rfl rfl
    · split at h
      · rename_i hk
        subst hk
        obtain ⟨i, rfl⟩ := among_int h
        exact two _ _ _ _ (f1 _) (f2 i) word_ok.2.1 rfl rfl rfl
      · cases h
  · rename_i k x y
    simp only [Bool.and_eq_true, Bool.or_eq_true, decide_eq_true_eq] at h
    obtain ⟨hk, hx, hy⟩ := h
    obtain ⟨i, rfl⟩ := among_int hx
    have hw : PyData.strOk k = true := by
      rcases hk with rfl | rfl
      · exact word_ok.2.2.1
      · exact word_ok.2.2.2
    rcases hy with hy | hy
    · have : y = .non := by
        unfold isNon at hy
        split at hy
        · rfl
        · cases hy
      subst this
      exact three _ _ _ _ _ _ (f1 _) (f2 i) f3 hw rfl rfl rfl rfl rfl
    · obtain ⟨j, rfl⟩ := among_int (show among y i 6 = true from hy)
      exact three _ _ _ _ _ _ (f1 _) (f2 i) (f2 j) hw rfl rfl rfl rfl rfl
  · cases h
theorem conds_data {b : Nat} (hb : b ≤ 10) (f : Nat) (ah : AH) : ∀ {cs : List D}, cs.all (condB b) = true → ∃ ps, pds (pd (f + 1) ah) cs = some ps ∧ PyData.canLayAll0 ps = true ∧ PyData.depthAll ps ≤ 1 ∧ ps.length = cs.length
  | [], _ => ⟨[], rfl, rfl, by decide, rfl⟩
  | c :: cs, h => by
    rw [List.all_cons, Bool.and_eq_true] at h
    obtain ⟨p, e1, e2, e3⟩ := cond_data hb h.1 f ah
    obtain ⟨ps, g1, g2, g3, g4⟩ := conds_data hb f ah h.2
    refine ⟨p :: ps, by simp only [pds, e1, g1], ?_, ?_, by simp [g4]⟩
    · show (PyData.canLay0 p && PyData.canLayAll0 ps) = true
      rw [e2, g2]; rfl
    · show max p.depth (PyData.depthAll ps) ≤ 1
      omega
/-- cs != () -/
theorem ne_empty {b : Nat} {cs : List D} {ah : AH} {q : QE} (hb : b ≤ 10) (h : cs.all (condB b) = true) (hq : q (.bl (!cs.isEmpty)) ah) : fEq true (.tup cs) (.tup []) ah q := by
  obtain ⟨ps, g1, g2, g3, g4⟩ := conds_data hb 18 ah h
  refine ⟨.tuple ps, .tuple [], ?_, rfl, ?_, by decide, ?_⟩
  · show (pds (pd 19 ah) cs).map PyData.tuple = _
    rw [g1]; rfl
  · unfold SeqAt.shaped
    rw [Bool.and_eq_true]
    refine ⟨g2, decide_eq_true ?_⟩
    show PyData.depthAll ps + 1 ≤ 64
    omega
  · have e : PyData.eqv (.tuple ps) (.tuple []) = cs.isEmpty := by
      cases ps with
      | nil => cases cs with
        | nil => rfl
        | cons _ _ => cases g4
      | cons _ _ => cases cs with
        | nil => cases g4
        | cons _ _ => rfl
    rw [e, Bool.true_bne]
    exact hq
/-! ### Style -/
def lastC (rs : List D) : List D := match rs.getLast? with
  | some (.tup [.tup cs, _]) => cs
  | _ => []
def styleErr (d : D) (rs : List D) : Option XD :=
  if among d 2 10 = true then
    if 1 ≤ rs.length ∧ rs.length ≤ 8 then
      match d with
      | .int b => (match rs.findIdx? fun r => !ruleB b.toNat r with
        | some i => some ("BadRule", [("place", .int (i : Nat))])
        | none => if (lastC rs).isEmpty = true then none else some ("BadRule", [("place", .int ((rs.length : Nat) - 1))]))
      | _ => none
    else some ("BadRule", [("place", .non)])
  else some ("BadBase", [("value", d)])
abbrev styO (d : D) (rs : List D) : O := .ins "Style" [("own_base", d), ("own_rules", .tup rs)]
def sp_Style___init__ : DSp := fun ds ah q x => ∃ n d rs, ds = [.ref n, d, .tup rs] ∧ ah[n]? = some (.ins "Style" []) ∧ okD ah d = true ∧ okDs ah rs = true ∧
  ∀ ah', Ext ah ah' → (match styleErr d rs with | some e => x e ah' | none => q .non (ah'.set n (styO d rs)))
def w_Style___init__ : WS := (wSeq (wExpr (wCall sp_need_base [] (wCons (wVar 1) wNil))) (wSeq (wIf (wNot (wTst (wChain fLe fLe (wC (.int 1)) (wCal gLen (wCons (wVar 2) wNil)) (wC (.int 8))))) (wRaise "BadRule" ["place"] (wCons (wC .non) wNil)) wNext) (wSeq (wFor (wEnum (wCons (wVar 2) wNil)) (gT 2 (gsC (gN 3) (gsC (gN 4) gsN))) (wIf (wNot (wTst (wCall sp_is_rule_in [] (wCons (wVar 1) (wCons (wVar 4) wNil))))) (wRaise "BadRule" ["place"] (wCons (wVar 3) wNil)) wNext)) (wSeq (wIf (wTst (wBin (fEq true) (wBin fAt (wBin fAt (wVar 2) (wNeg (wC (.int 1)))) (wC (.int 0))) (wTup wNil))) (wRaise "BadRule" ["place"] (wCons (wBin fSub (wCal gLen (wCons (wVar 2) wNil)) (wC (.int 1))) wNil)) wNext) (wSeq (wSetF ["Style"] "own_base" (wVar 1) (wVar 0)) (wSetF ["Style"] "own_rules" (wVar 2) (wVar 0)))))))
theorem rules_loop {b n : Nat} {rs : List D} (h2 : 2 ≤ b) (hb : b ≤ 10) : ∀ (l : List D) (k : Nat) (o o2 : Option D) (ah : AH) (dn : DEnds) (x : QXS), okDs ah l = true →
    (∀ ah', Ext ah ah' → match l.findIdx? fun r => !ruleB b r with | some i => ∀ env, x ("BadRule", [("place", .int ((k + i : Nat) : Int))]) env ah' | none => ∀ o o2, dn.nx [some (.ref n), some (.int b), some (.tup rs), o, o2] ah') →
    forGo (fun _ => True) (gT 2 (gsC (gN 3) (gsC (gN 4) gsN))) (wIf (wNot (wTst (wCall sp_is_rule_in [] (wCons (wVar 1) (wCons (wVar 4) wNil))))) (wRaise "BadRule" ["place"] (wCons (wVar 3) wNil)) wNext) dn x (numbered k l) [some (.ref n), some (.int b), some (.tup rs), o, o2] ah
  | [], k, o, o2, ah, dn, x, _, h => ⟨trivial, h ah Ext.refl o o2⟩
  | r :: l, k, o, o2, ah, dn, x, hok, h => by
    unfold okDs at hok
    rw [Bool.and_eq_true] at hok
    refine ⟨trivial, rfl, b, r, rfl, h2, hb, hok.1, fun ah' he => ?_⟩
    have h' := h ah' he
    rw [List.findIdx?_cons] at h'
    cases hr : ruleB b r with
    | false =>
      rw [hr] at h'
      exact ⟨rfl, by decide, h' _⟩
    | true =>
      rw [hr] at h'
      refine rules_loop h2 hb l (k + 1) _ _ ah' dn x (okDs_ext he hok.2) fun ah2 he2 => ?_
      have h2' := h ah2 (he.trans he2)
      rw [List.findIdx?_cons, hr] at h2'
      simp only [Bool.not_true, Bool.false_eq_true, if_false] at h2'
      cases hf : l.findIdx? fun r => !ruleB b r with
      | none => rw [hf] at h2'; exact h2'
      | some i =>
        rw [hf] at h2'
        have e : k + 1 + i = k + (i + 1) := by omega
        dsimp only
        rw [e]
        exact h2'
theorem at_last {α : Type} {l : List α} (h : l ≠ []) : atI l (-1) = l.getLast? := by
  have hl : 0 < l.length := List.length_pos_iff.mpr h
  unfold atI ixN
  rw [if_neg (by decide), if_pos (by omega)]
  show l[((-1 : Int) + l.length).toNat]? = _
  rw [show ((-1 : Int) + l.length).toNat = l.length - 1 by omega, List.getLast?_eq_getElem?]
theorem ruleB_tup {b : Nat} {r : D} (h : ruleB b r = true) : ∃ cs k, r = .tup [.tup cs, k] ∧ cs.all (condB b) = true := by
  unfold ruleB at h
  split at h
  · simp only [Bool.and_eq_true] at h
    exact ⟨_, _, rfl, h.2.1⟩
  · cases h
theorem wp_Style___init__ (ds : List D) (ah : AH) (q : QE) (x : QX) (h : sp_Style___init__ ds ah q x) : w_Style___init__ (startD 5 ds) ah { nx := fun _ ah' => q .non ah', rt := q } (fun e _ ah' => x e ah') := by
  obtain ⟨n, d, rs, rfl, hn, okd, okr, hq⟩ := h
  show w_Style___init__ [some (.ref n), some d, some (.tup rs), none, none] ah _ _
  refine ⟨d, rfl, okD_ty okd, ?_⟩
  cases ha : among d 2 10 with
  | false =>
    have := hq ah Ext.refl
    unfold styleErr at this
    rw [ha, if_neg (by decide)] at this
    exact this
  | true =>
    rw [if_pos rfl]
    obtain ⟨i, rfl⟩ := among_int ha
    have hi : (2 : Int) ≤ i ∧ i ≤ 10 := by
      unfold among at ha
      simpa using ha
    obtain ⟨b, rfl⟩ : ∃ b : Nat, i = b := ⟨i.toNat, by omega⟩
    have h2 : 2 ≤ b := by omega
    have hb : b ≤ 10 := by omega
    simp only [wSeq, wIf, wNot, wTst, wChain, wC, wCal, wCons, wNil, wVar, gt, gLen, fLe]
    have err : ∀ ah', Ext ah ah' → ¬ (1 ≤ rs.length ∧ rs.length ≤ 8) → x ("BadRule", [("place", .non)]) ah' := fun ah' he hl => by
      have := hq ah' he
      unfold styleErr at this
      rw [ha, if_pos rfl, if_neg hl] at this
      exact this
    by_cases h1 : 1 ≤ rs.length
    · rw [decide_eq_true (by omega : (1 : Int) ≤ rs.length)]
      by_cases h8 : rs.length ≤ 8
      · simp only
        rw [decide_eq_true (by omega : (rs.length : Int) ≤ 8)]
        refine ite_f ?_
        have go : ∀ ah', Ext ah ah' → (match rs.findIdx? fun r => !ruleB b r with
            | some i => x ("BadRule", [("place", .int (i : Nat))]) ah'
            | none => if (lastC rs).isEmpty = true then q .non (ah'.set n (styO (.int b) rs)) else x ("BadRule", [("place", .int ((rs.length : Nat) - 1))]) ah') := fun ah' he => by
          have := hq ah' he
          unfold styleErr at this
          rw [ha, if_pos rfl, if_pos ⟨h1, h8⟩] at this
          simp only [Int.toNat_natCast] at this
          cases hf : rs.findIdx? fun r => !ruleB b r with
          | some i => rw [hf] at this; exact this
          | none =>
            rw [hf] at this
            simp only at this ⊢
            split
            · rename_i hl; rw [if_pos hl] at this; exact this
            · rename_i hl; rw [if_neg hl] at this; exact this
        simp only [wNext, wFor, wEnum, wCons, wNil, wVar, gt]
        refine rules_loop h2 hb rs 0 none none ah _ _ okr fun ah' he => ?_
        have g := go ah' he
        cases hf : rs.findIdx? fun r => !ruleB b r with
        | some i =>
          rw [hf] at g
          intro env
          rw [Nat.zero_add]
          exact g
        | none =>
          rw [hf] at g
          intro o o2
          have all_ : ∀ r ∈ rs, ruleB b r = true := fun r hr => by
            have := List.findIdx?_eq_none_iff.mp hf r hr
            simpa using this
          have hne : rs ≠ [] := fun z => by subst z; simp at h1
          obtain ⟨r, hr⟩ : ∃ r, rs.getLast? = some r := ⟨rs.getLast hne, List.getLast?_eq_some_getLast hne⟩
          obtain ⟨cs, k, rfl, hc⟩ := ruleB_tup (all_ r (List.mem_of_getLast? hr))
          have hlc : lastC rs = cs := by unfold lastC; rw [hr]
          simp only at g
          rw [hlc] at g
          simp only [wSeq, wIf, wTst, wBin, wVar, wC, wNeg, wTup, wNil, gt, fAt, fIx, at_last hne, hr, at0]
          refine ⟨by decide, ne_empty hb hc ?_⟩
          cases hcs : cs.isEmpty with
          | false =>
            rw [hcs] at g
            refine ite_t ?_
            exact ⟨rfl, by decide, g⟩
          | true =>
            rw [hcs, if_pos rfl] at g
            refine ite_f ?_
            have hn' := he n _ hn
            have hlt : n < ah'.length := (List.getElem?_eq_some_iff.mp hn').1
            simp only [wNext, wSetF, wVar, gt, fSetF, hn', List.getElem?_set_self hlt, List.set_set]
            refine ⟨by simp, by decide, by simp, show 1 < 1000 by decide, ?_⟩
            exact g
      · simp only
        rw [decide_eq_false (by omega : ¬ (rs.length : Int) ≤ 8)]
        refine ite_t ?_
        exact ⟨rfl, by decide, err _ Ext.refl (by omega)⟩
    · rw [decide_eq_false (by omega : ¬ (1 : Int) ≤ rs.length)]
      refine ite_t ?_
      exact ⟨rfl, by decide, err _ Ext.refl (by omega)⟩
end Z
namespace Z
open PySem PySem.Spec PyProof.Rows L2
/-- the rules that are handed over, as a row of things -/
def rowOf (ah : AH) (d : D) : Option (List D) := match d with
  | .tup l => some l
  | .ref n => (match ah[n]? with
    | some (.lst l) => some l
    | _ => none)
  | _ => none
def sp_Style_of : DSp := fun ds ah q x => ∃ d r, ds = [.glo "Style", d, r] ∧ okD ah d = true ∧ okD ah r = true ∧
  (if among d 2 10 = true then (match rowOf ah r with
    | some rs => okDs ah rs = true ∧ rs.length ≤ 1000 ∧ ∀ ah', Ext ah ah' → (match styleErr d rs with
      | some e => x e ah'
      | none => ∀ n, ah.length ≤ n → ah'[n]? = some (styO d rs) → q (.ref n) ah')
    | none => x ("BadRule", [("place", .non)]) ah)
  else x ("BadBase", [("value", d)]) ah)
def w_Style_of : WS := (wSeq (wExpr (wCall sp_need_base [] (wCons (wVar 1) wNil))) (wSeq (wIf (wNot (wTst (wIsi2 "tuple" "list" (wVar 2)))) (wRaise "BadRule" ["place"] (wCons (wC .non) wNil)) wNext) (wRet (wCallL "Style" (mkSp "Style" (starSp 2 sp_Style___init__)) (wVar 0) (wCons (wVar 1) (wStar (wVar 2) wNil))))))
theorem Ext.set_new {ah ah' : AH} {o o2 : O} (h : Ext (ah ++ [o]) ah') : Ext ah (ah'.set ah.length o2) := fun m o' e => by
  have hm : m < ah.length := (List.getElem?_eq_some_iff.mp e).1
  rw [List.getElem?_set_ne (by omega)]
  exact h m o' (by rw [List.getElem?_append_left hm]; exact e)
theorem Ext.of_push {ah ah' : AH} {o : O} (h : Ext (ah ++ [o]) ah') : Ext ah ah' := (Ext.push [o]).trans h
theorem wp_Style_of (ds : List D) (ah : AH) (q : QE) (x : QX) (h : sp_Style_of ds ah q x) : w_Style_of (startD 3 ds) ah { nx := fun _ ah' => q .non ah', rt := q } (fun e _ ah' => x e ah') := by
  obtain ⟨d, r, rfl, okd, okr, hq⟩ := h
  show w_Style_of [some (.glo "Style"), some d, some r] ah _ _
  refine ⟨d, rfl, okD_ty okd, ?_⟩
  cases ha : among d 2 10 with
  | false => rw [ha, if_neg (by decide)] at hq; exact hq
  | true =>
    rw [ha, if_pos rfl] at hq
    rw [if_pos rfl]
    obtain ⟨t, ht⟩ := Option.isSome_iff_exists.mp (okD_ty okr)
    simp only [wSeq, wIf, wNot, wTst, wIsi2, wVar, gt, ht]
    cases hr : rowOf ah r with
    | none =>
      rw [hr] at hq
      have e : (isTy t "tuple" || isTy t "list") = false := by
        cases r with
        | tup l => cases hr
        | ref n =>
          simp only [rowOf] at hr
          simp only [tyD] at ht
          split at ht
          · rename_i h1; rw [h1] at hr; cases hr
          · cases ht; decide
          · cases ht
        | frl l => unfold okD at okr; cases okr
        | _ => first | (cases ht; decide) | (simp only [tyD] at ht; cases ht)
      rw [e]
      refine ite_t ?_
      exact ⟨rfl, by decide, hq⟩
    | some rs =>
      rw [hr] at hq
      obtain ⟨oks, hl, hq⟩ := hq
      have e : (isTy t "tuple" || isTy t "list") = true := by
        unfold rowOf at hr
        split at hr
        · cases ht; decide
        · split at hr
          · rename_i h1
            simp only [tyD, h1] at ht
            cases ht; decide
          · cases hr
        · cases hr
      rw [e]
      refine ite_f ?_
      simp only [wNext, wRet, wCallL, wVar, gt, wCons, wStar, wNil]
      have fin : mkSp "Style" (starSp 2 sp_Style___init__) (d :: (rs ++ [])) ah q x := by
        rw [List.append_nil]
        refine ⟨by simp, Nat.le_trans (by simpa using hl) (by decide), ah.length, d, rs, rfl, get_push _ _, okD_ext (Ext.push _) okd, okDs_ext (Ext.push _) oks, fun ah' he => ?_⟩
        have hlt : ah.length < ah'.length := (List.getElem?_eq_some_iff.mp (he _ _ (get_push ah (.ins "Style" [])))).1
        cases hs : styleErr d rs with
        | some e =>
          have := hq ah' he.of_push
          rw [hs] at this
          exact this
        | none =>
          have := hq (ah'.set ah.length (styO d rs)) he.set_new
          rw [hs] at this
          exact ⟨rfl, this ah.length (Nat.le_refl _) (by rw [List.getElem?_set_self hlt])⟩
      refine ⟨trivial, ?_⟩
      cases r with
      | tup l => cases hr; exact fin
      | ref n =>
        cases hn : ah[n]? with
        | none => simp only [rowOf, hn] at hr; cases hr
        | some o =>
          cases o with
          | lst l =>
            simp only [rowOf, hn] at hr
            cases hr
            show (match ah[n]? with | some (.lst l) => _ | _ => False : Prop)
            rw [hn]
            exact fin
          | _ => simp only [rowOf, hn] at hr; cases hr
      | _ => cases hr
end Z
namespace Z
open PySem PySem.Spec PyProof.Rows L2
/-! ### the sizes that stand in rules -/
def numsOf : List D → List Int
  | [] => []
  | .int i :: l => i :: numsOf l
  | _ :: l => numsOf l
def condSizes (c : D) : List Int := match c with
  | .tup [.str k, .str z] => [(z.length : Int)]
  | .tup (.str k :: rest) => numsOf rest
  | _ => []
def keepSizes (k : D) : List Int := match k with
  | .tup (_ :: rest) => numsOf rest
  | _ => []
def ruleSizes (r : D) : List Int := match r with
  | .tup [.tup cs, k] => keepSizes k ++ cs.flatMap condSizes
  | _ => []
def maxI (a : Int) : List Int → Int
  | [] => a
  | b :: l => maxI (if b > a then b else a) l
theorem maxI_ge : ∀ (l : List Int) (a : Int), a ≤ maxI a l ∧ ∀ y ∈ l, y ≤ maxI a l
  | [], a => ⟨Int.le_refl _, by simp⟩
  | b :: l, a => by
    obtain ⟨h1, h2⟩ := maxI_ge l (if b > a then b else a)
    unfold maxI
    have : a ≤ (if b > a then b else a) ∧ b ≤ (if b > a then b else a) := by split <;> omega
    refine ⟨Int.le_trans this.1 h1, fun y hy => ?_⟩
    rcases List.mem_cons.mp hy with rfl | hy
    · exact Int.le_trans this.2 h1
    · exact h2 y hy
theorem maxI_mem : ∀ (l : List Int) (a : Int), maxI a l = a ∨ maxI a l ∈ l
  | [], a => .inl rfl
  | b :: l, a => by
    unfold maxI
    rcases maxI_mem l (if b > a then b else a) with h | h
    · rw [h]
      split
      · exact .inr (by simp)
      · exact .inl rfl
    · exact .inr (List.mem_cons_of_mem _ h)
theorem max_is {a : Int} {l : List Int} {m : Int} (h1 : m ∈ a :: l) (h2 : ∀ y ∈ a :: l, y ≤ m) : m = maxI a l := by
  obtain ⟨g1, g2⟩ := maxI_ge l a
  have : m ≤ maxI a l := by
    rcases List.mem_cons.mp h1 with rfl | h
    · exact g1
    · exact g2 m h
  have : maxI a l ≤ m := by
    rcases maxI_mem l a with h | h
    · rw [h]; exact h2 a (by simp)
    · exact h2 _ (List.mem_cons_of_mem _ h)
  omega
theorem maxI_append : ∀ (l m : List Int) (a : Int), maxI a (l ++ m) = maxI (maxI a l) m
  | [], m, a => rfl
  | b :: l, m, a => by
    show maxI _ (l ++ m) = maxI (maxI _ l) m
    exact maxI_append l m _
theorem gMaxL_of {n : Nat} {ah : AH} {q : QE} {a : Int} {l : List Int} (h : ah[n]? = some (.lst ((a :: l).map D.int))) (hq : q (.int (maxI a l)) ah) : gMaxL [.ref n] ah q := by
  unfold gMaxL
  simp only [h]
  exact ⟨a :: l, rfl, by simp, fun m h1 h2 => by rw [max_is h1 h2]; exact hq⟩
/-- parts of a condition, of a keep: sizes or None -/
def sized (d : D) : Bool := match d with
  | .int _ => true
  | .non => true
  | _ => false
/-- [size for size in l if size is not None] -/
theorem sizes_loop {q : QE} {e0 e1 e2 e3 e4 : Option D} : ∀ (l : List D) (acc : List Int) (ah : AH), l.all sized = true → acc.length + l.length < 100 → newL ((acc ++ numsOf l).map D.int) ah q →
    lcGo (fun _ => True) (gN 5) (wTst (wBin (fIs true) (wVar 5) (wC .non))) (wVar 5) [e0, e1, e2, e3, e4, none] q l (acc.map D.int) ah
  | [], acc, ah, _, _, h => ⟨trivial, by simpa [numsOf] using h⟩
  | d :: l, acc, ah, hs, hl, h => by
    rw [List.all_cons, Bool.and_eq_true] at hs
    have hl' : acc.length < 100 := by simp at hl; omega
    refine ⟨trivial, by rw [List.length_map]; exact Nat.lt_of_lt_of_le hl' (by decide), ?_⟩
    cases d with
    | int i =>
      have ih := sizes_loop (e0 := e0) (e1 := e1) (e2 := e2) (e3 := e3) (e4 := e4) l (acc ++ [i]) ah hs.2 (by simp at hl ⊢; omega) (by
        rw [List.append_assoc]; exact h)
      rw [List.map_append] at ih
      exact ih
    | non => exact sizes_loop l acc ah hs.2 (by simp at hl ⊢; omega) h
    | _ => cases hs.1
/-- [size for size in l] -/
theorem all_loop {q : QE} {e0 e1 e2 e3 e4 : Option D} : ∀ (l : List Int) (acc : List Int) (ah : AH), acc.length + l.length < 100 → newL ((acc ++ l).map D.int) ah q →
    lcGo (fun _ => True) (gN 5) wYes (wVar 5) [e0, e1, e2, e3, e4, none] q (l.map D.int) (acc.map D.int) ah
  | [], acc, ah, _, h => ⟨trivial, by simpa using h⟩
  | i :: l, acc, ah, hl, h => by
    have hl' : acc.length < 100 := by simp at hl; omega
    refine ⟨trivial, by rw [List.length_map]; exact Nat.lt_of_lt_of_le hl' (by decide), ?_⟩
    have ih := all_loop (e0 := e0) (e1 := e1) (e2 := e2) (e3 := e3) (e4 := e4) l (acc ++ [i]) ah (by simp at hl ⊢; omega) (by
      rw [List.append_assoc]; exact h)
    rw [List.map_append] at ih
    exact ih
theorem numsOf_ints (l : List Int) : numsOf (l.map D.int) = l := by
  induction l with
  | nil => rfl
  | cons i l ih => show i :: numsOf _ = _; rw [ih]
/-- what a valid condition looks like -/
theorem cond_cases {b : Nat} {c : D} (h : condB b c = true) : (∃ z, c = .tup [.str "ends", .str z] ∧ condSizes c = [(z.length : Int)] ∧ z.length ≤ 2) ∨
    (∃ k rest, c = .tup (.str k :: rest) ∧ k ≠ "ends" ∧ condSizes c = numsOf rest ∧ rest.all sized = true ∧ rest.length ≤ 2) := by
  unfold condB at h
  split at h
  · rename_i k x
    split at h
    · rename_i hk
      subst hk
      rw [Bool.and_eq_true] at h
      obtain ⟨z, rfl⟩ := areB_str h.1
      exact .inl ⟨z, rfl, rfl, by have := h.2; unfold le2 at this; exact of_decide_eq_true this⟩
    · rename_i hk
      split at h
      · obtain ⟨i, rfl⟩ := among_int h
        exact .inr ⟨k, [.int i], rfl, hk, rfl, rfl, by simp⟩
      · cases h
  · rename_i k x y
    simp only [Bool.and_eq_true, Bool.or_eq_true, decide_eq_true_eq] at h
    obtain ⟨hk, hx, hy⟩ := h
    obtain ⟨i, rfl⟩ := among_int hx
    have hne : k ≠ "ends" := by
      rcases hk with rfl | rfl
      · exact Ne.symm kne.1
      · exact Ne.symm kne.2.1
    rcases hy with hy | hy
    · have : y = .non := by
        unfold isNon at hy
        split at hy
        · rfl
        · cases hy
      subst this
      exact .inr ⟨k, [.int i, .non], rfl, hne, rfl, rfl, by simp⟩
    · obtain ⟨j, rfl⟩ := among_int (show among y i 6 = true from hy)
      exact .inr ⟨k, [.int i, .int j], rfl, hne, rfl, rfl, by simp⟩
  · cases h
theorem keep_cases {k : D} (h : keepB k = true) : ∃ w ns, k = .tup (.str w :: ns.map D.int) ∧ keepSizes k = ns ∧ ns.length ≤ 1 := by
  unfold keepB at h
  split at h
  · exact ⟨_, [], rfl, rfl, by decide⟩
  · rw [Bool.and_eq_true] at h
    obtain ⟨i, rfl⟩ := among_int h.2
    exact ⟨_, [i], rfl, rfl, by simp⟩
  · cases h
theorem cut_tail (a : D) (l : List D) : cutD (a :: l) (some 1) none = l := by
  unfold cutD
  rw [HT.sIx_none]
  have : HT.sIx (a :: l).length 0 (some 1) = 1 := by
    have := HT.sIx_nat (a :: l).length 0 1
    simp at this ⊢
    exact this
  rw [this]
  simp

/-! ### limit_in -/
structure Acc (ah0 : AH) (n : Nat) (l : List Int) (ah : AH) : Prop where
  ext : Ext ah0 ah
  new : ah0.length ≤ n
  at_ : ah[n]? = some (.lst (l.map D.int))
theorem Acc.step {ah0 ah ah' : AH} {n : Nat} {l : List Int} (h : Acc ah0 n l ah) (e : Ext ah ah') : Acc ah0 n l ah' := ⟨h.ext.trans e, h.new, e _ _ h.at_⟩
theorem Acc.put {ah0 ah : AH} {n : Nat} {l m : List Int} (h : Acc ah0 n l ah) : Acc ah0 n m (ah.set n (.lst (m.map D.int))) := by
  have hlt : n < ah.length := (List.getElem?_eq_some_iff.mp h.at_).1
  refine ⟨fun k o e => ?_, h.new, by rw [List.getElem?_set_self hlt]⟩
  have : k < ah0.length := (List.getElem?_eq_some_iff.mp e).1
  rw [List.getElem?_set_ne (by have := h.new; omega)]
  exact h.ext k o e
def sp_limit_in : DSp := fun ds ah q _ => ∃ (b : Nat) (rs : List D), ds = [.tup rs] ∧ b ≤ 10 ∧ rs.all (ruleB b) = true ∧ rs.length ≤ 8 ∧ ∀ ah', Ext ah ah' → q (.int (maxI 1 (rs.flatMap ruleSizes))) ah'
def w_limit_in : WS := (wSeq (wAsg (wLst (wCons (wC (.int 1)) wNil)) (gN 1)) (wSeq (wFor (wIter (wVar 0)) (gT 2 (gsC (gN 2) (gsC (gN 3) gsN))) (wSeq (wExpr (wMet isLst fExtend (wVar 1) (wCons (wCal gList (wCons (wSl (wVar 3) (wPart (wC (.int 1))) wNoPart) wNil)) wNil))) (wFor (wIter (wVar 2)) (gN 4) (wIf (wTst (wBin (fEq false) (wBin fAt (wVar 4) (wC (.int 0))) (wC (.str "ends")))) (wExpr (wMet isLst fAppend (wVar 1) (wCons (wCal gLen (wCons (wBin fAt (wVar 4) (wC (.int 1))) wNil)) wNil))) (wExpr (wMet isLst fExtend (wVar 1) (wCons (wLc [5] (wIter (wSl (wVar 4) (wPart (wC (.int 1))) wNoPart)) (gN 5) (wTst (wBin (fIs true) (wVar 5) (wC .non))) (wVar 5)) wNil))))))) (wRet (wCal gMaxL (wCons (wVar 1) wNil)))))
abbrev w_lim1 : WS := (wIf (wTst (wBin (fEq false) (wBin fAt (wVar 4) (wC (.int 0))) (wC (.str "ends")))) (wExpr (wMet isLst fAppend (wVar 1) (wCons (wCal gLen (wCons (wBin fAt (wVar 4) (wC (.int 1))) wNil)) wNil))) (wExpr (wMet isLst fExtend (wVar 1) (wCons (wLc [5] (wIter (wSl (wVar 4) (wPart (wC (.int 1))) wNoPart)) (gN 5) (wTst (wBin (fIs true) (wVar 5) (wC .non))) (wVar 5)) wNil))))
theorem isLst_of {n : Nat} {ah : AH} {l : List D} (h : ah[n]? = some (.lst l)) : isLst (.ref n) ah := by unfold isLst; simp only [h]
theorem lim_conds {b n : Nat} {ah0 : AH} {r0 c0 k0 : Option D} (hb : b ≤ 10) : ∀ (cs : List D) (acc : List Int) (o o5 : Option D) (ah : AH) (dn : DEnds) (x : QXS), cs.all (condB b) = true → acc.length + 3 * cs.length < 10000 → Acc ah0 n acc ah →
    (∀ o o5 ah', Acc ah0 n (acc ++ cs.flatMap condSizes) ah' → dn.nx [r0, some (.ref n), c0, k0, o, o5] ah') → forGo (fun _ => True) (gN 4) w_lim1 dn x cs [r0, some (.ref n), c0, k0, o, o5] ah
  | [], acc, o, o5, ah, dn, x, _, _, hA, h => ⟨trivial, h o o5 ah (by simpa using hA)⟩
  | c :: cs, acc, o, o5, ah, dn, x, hc, hl, hA, h => by
    rw [List.all_cons, Bool.and_eq_true] at hc
    simp only [List.length_cons] at hl
    have hlt : n < ah.length := (List.getElem?_eq_some_iff.mp hA.at_).1
    refine ⟨trivial, ?_⟩
    rcases cond_cases hc.1 with ⟨z, rfl, es, hz⟩ | ⟨k, rest, rfl, hk, es, hs, hr⟩
    · simp only [gN, st, wIf, wTst, wBin, wVar, wC, gt, fAt, fIx, at0, fEq, decide_true]
      refine ite_t ?_
      simp only [wExpr, wMet, wVar, gt, wCons, wNil, wCal, wBin, wC, fAt, fIx, at1, gLen, fAppend, hA.at_]
      refine ⟨isLst_of hA.at_, Nat.le_of_lt (Nat.lt_of_le_of_lt hz (by decide)), by rw [List.length_map]; exact Nat.lt_of_lt_of_le (show acc.length < 10000 by omega) (by decide), ?_⟩
      have A2 := hA.put (m := acc ++ [(z.length : Int)])
      rw [List.map_append] at A2
      refine lim_conds hb cs _ _ _ _ dn x hc.2 (by simp; omega) A2 fun o o5 ah' hA' => h o o5 ah' ?_
      rw [List.append_assoc] at hA'
      rw [List.flatMap_cons, es]
      exact hA'
    · simp only [gN, st, wIf, wTst, wBin, wVar, wC, gt, fAt, fIx, at0, fEq]
      rw [decide_eq_false hk]
      refine ite_f ?_
      simp only [wExpr, wMet, wVar, gt, wCons, wNil, wLc, wIter, wSl, wPart, wNoPart, wC, fSl, fIter, cut_tail, nos, no]
      refine ⟨isLst_of hA.at_, ?_⟩
      refine sizes_loop rest [] ah hs (by simp; omega) ?_
      rw [List.nil_append]
      have e1 : Ext ah (ah ++ [O.lst ((numsOf rest).map D.int)]) := Ext.push _
      have A1 := hA.step e1
      have hlen : (numsOf rest).length ≤ 2 := by
        have : ∀ l : List D, (numsOf l).length ≤ l.length := fun l => by
          induction l with
          | nil => simp [numsOf]
          | cons d l ih => cases d <;> simp only [numsOf, List.length_cons] <;> omega
        exact Nat.le_trans (this rest) hr
      simp only [newL, fExtend, A1.at_, get_push]
      refine ⟨by rw [List.length_map, List.length_map]; exact Nat.le_trans (show acc.length + (numsOf rest).length ≤ 10000 by omega) (by decide), ?_⟩
      have A2 := A1.put (m := acc ++ numsOf rest)
      rw [List.map_append] at A2
      refine lim_conds hb cs _ _ _ _ dn x hc.2 (by simp; omega) A2 fun o o5 ah' hA' => h o o5 ah' ?_
      rw [List.append_assoc] at hA'
      rw [List.flatMap_cons, es]
      exact hA'
end Z
namespace Z
open PySem PySem.Spec PyProof.Rows L2
theorem rule_cases {b : Nat} {r : D} (h : ruleB b r = true) : ∃ cs w ns, r = .tup [.tup cs, .tup (.str w :: ns.map D.int)] ∧ cs.length ≤ 3 ∧ cs.all (condB b) = true ∧ ruleSizes r = ns ++ cs.flatMap condSizes ∧ ns.length ≤ 1 := by
  unfold ruleB at h
  split at h
  · rename_i cs k
    simp only [Bool.and_eq_true, decide_eq_true_eq] at h
    obtain ⟨w, ns, rfl, e, hn⟩ := keep_cases h.2.2
    refine ⟨cs, w, ns, rfl, h.1, h.2.1, ?_, hn⟩
    show keepSizes _ ++ _ = _
    rw [e]
  · cases h
theorem condSizes_len {b : Nat} {c : D} (h : condB b c = true) : (condSizes c).length ≤ 2 := by
  have hn : ∀ l : List D, (numsOf l).length ≤ l.length := fun l => by
    induction l with
    | nil => simp [numsOf]
    | cons d l ih => cases d <;> simp only [numsOf, List.length_cons] <;> omega
  rcases cond_cases h with ⟨z, rfl, es, hz⟩ | ⟨k, rest, rfl, hk, es, hs, hr⟩
  · rw [es]; simp
  · rw [es]; exact Nat.le_trans (hn rest) hr
theorem condsSizes_len {b : Nat} : ∀ {cs : List D}, cs.all (condB b) = true → (cs.flatMap condSizes).length ≤ 2 * cs.length
  | [], _ => by simp
  | c :: cs, h => by
    rw [List.all_cons, Bool.and_eq_true] at h
    rw [List.flatMap_cons, List.length_append, List.length_cons]
    have := condSizes_len h.1
    have := condsSizes_len h.2
    omega
theorem lim_rules {b n : Nat} {ah0 : AH} {r0 : Option D} (hb : b ≤ 10) : ∀ (rs : List D) (acc : List Int) (o2 o3 o4 o5 : Option D) (ah : AH) (dn : DEnds) (x : QXS), rs.all (ruleB b) = true → acc.length + 20 * rs.length < 1000 → Acc ah0 n acc ah →
    (∀ o2 o3 o4 o5 ah', Acc ah0 n (acc ++ rs.flatMap ruleSizes) ah' → dn.nx [r0, some (.ref n), o2, o3, o4, o5] ah') →
    forGo (fun _ => True) (gT 2 (gsC (gN 2) (gsC (gN 3) gsN))) (wSeq (wExpr (wMet isLst fExtend (wVar 1) (wCons (wCal gList (wCons (wSl (wVar 3) (wPart (wC (.int 1))) wNoPart) wNil)) wNil))) (wFor (wIter (wVar 2)) (gN 4) w_lim1)) dn x rs [r0, some (.ref n), o2, o3, o4, o5] ah
  | [], acc, o2, o3, o4, o5, ah, dn, x, _, _, hA, h => ⟨trivial, h o2 o3 o4 o5 ah (by simpa using hA)⟩
  | r :: rs, acc, o2, o3, o4, o5, ah, dn, x, hr, hl, hA, h => by
    rw [List.all_cons, Bool.and_eq_true] at hr
    simp only [List.length_cons] at hl
    obtain ⟨cs, w, ns, rfl, hc3, hc, es, hn⟩ := rule_cases hr.1
    refine ⟨trivial, rfl, ?_⟩
    simp only [gsC, gN, gsN, st, wSeq, wExpr, wMet, wVar, gt, wCons, wNil, wCal, wSl, wPart, wNoPart, wC, fSl, cut_tail, gList, newL]
    refine ⟨isLst_of hA.at_, ?_⟩
    have A1 := hA.step (Ext.push [O.lst (ns.map D.int)])
    simp only [fExtend, A1.at_, get_push]
    refine ⟨by rw [List.length_map, List.length_map]; exact Nat.le_trans (show acc.length + ns.length ≤ 10000 by omega) (by decide), ?_⟩
    have A2 := A1.put (m := acc ++ ns)
    rw [List.map_append] at A2
    simp only [wFor, wIter, wVar, gt, fIter]
    have hcl := condsSizes_len hc
    refine lim_conds hb cs (acc ++ ns) _ _ _ _ _ hc (by simp; omega) A2 fun o4 o5 ah' hA' => ?_
    refine lim_rules hb rs _ _ _ _ _ ah' dn x hr.2 (by rw [List.length_append, List.length_append]; omega) hA' fun o2 o3 o4 o5 ah2 hA2 => h o2 o3 o4 o5 ah2 ?_
    rw [List.flatMap_cons, es]
    simpa [List.append_assoc] using hA2
theorem wp_limit_in (ds : List D) (ah : AH) (q : QE) (x : QX) (h : sp_limit_in ds ah q x) : w_limit_in (startD 6 ds) ah { nx := fun _ ah' => q .non ah', rt := q } (fun e _ ah' => x e ah') := by
  obtain ⟨b, rs, rfl, hb, hr, hl, hq⟩ := h
  show w_limit_in [some (.tup rs), none, none, none, none, none] ah _ _
  unfold w_limit_in
  simp only [wSeq, wAsg, wLst, wCons, wC, wNil, newL, gN, st]
  refine ⟨by decide, ?_⟩
  simp only [wFor, wIter, wVar, gt, fIter]
  have A0 : Acc ah ah.length [1] (ah ++ [O.lst [.int 1]]) := ⟨Ext.push _, Nat.le_refl _, get_push _ _⟩
  refine lim_rules hb rs [1] none none none none _ _ _ hr (by simp; omega) A0 fun o2 o3 o4 o5 ah' hA => ?_
  simp only [wRet, wCal, wCons, wVar, gt, wNil]
  exact gMaxL_of (a := 1) hA.at_ (hq _ hA.ext)
/-! ### limit -/
/-- a style at n -/
def StyAt (b : Nat) (ah : AH) (d : D) (rs : List D) : Prop := ∃ n, d = .ref n ∧ ah[n]? = some (styO (.int b) rs) ∧ rs.all (ruleB b) = true ∧ rs.length ≤ 8
theorem StyAt.ext {b : Nat} {ah ah' : AH} {d : D} {rs : List D} (h : StyAt b ah d rs) (e : Ext ah ah') : StyAt b ah' d rs := by
  obtain ⟨n, h1, h2, h3⟩ := h
  exact ⟨n, h1, e _ _ h2, h3⟩
def StysAt (b : Nat) (ah : AH) : List D → List (List D) → Prop
  | [], rss => rss = []
  | s :: ss, rss => ∃ r rr, rss = r :: rr ∧ StyAt b ah s r ∧ StysAt b ah ss rr
theorem StysAt.ext {b : Nat} {ah ah' : AH} (e : Ext ah ah') : ∀ {ss : List D} {rss : List (List D)}, StysAt b ah ss rss → StysAt b ah' ss rss
  | [], _, h => h
  | _ :: _, _, ⟨r, rr, h1, h2, h3⟩ => ⟨r, rr, h1, h2.ext e, StysAt.ext e h3⟩
abbrev lim (rs : List D) : Int := maxI 1 (rs.flatMap ruleSizes)
def sp_limit : DSp := fun ds ah q _ => ∃ (b : Nat) (ss : List D) (rss : List (List D)), ds = [.tup ss] ∧ b ≤ 10 ∧ StysAt b ah ss rss ∧ ss ≠ [] ∧ ss.length ≤ 10 ∧ ∀ m ah', Ext ah ah' → (∃ r0 rr, rss = r0 :: rr ∧ m = maxI (lim r0) (rr.map lim)) → q (.int m) ah'
def w_limit : WS := (wRet (wCal gMaxL (wCons (wLc [1] (wIter (wVar 0)) (gN 1) wYes (wCall sp_limit_in [] (wCons (wFld ["Style"] "own_rules" (wVar 1)) wNil))) wNil)))
theorem styles_loop {b : Nat} {t : D} {q : QE} (hb : b ≤ 10) : ∀ (ss : List D) (rss : List (List D)) (acc : List Int) (ah : AH), StysAt b ah ss rss → acc.length + ss.length < 100 → (∀ ah', Ext ah ah' → newL ((acc ++ rss.map lim).map D.int) ah' q) →
    lcGo (fun _ => True) (gN 1) wYes (wCall sp_limit_in [] (wCons (wFld ["Style"] "own_rules" (wVar 1)) wNil)) [some t, none] q ss (acc.map D.int) ah
  | [], _, acc, ah, e, _, h => by cases e; exact ⟨trivial, by simpa using h ah Ext.refl⟩
  | s :: ss, _, acc, ah, ⟨rs, rss, e, ⟨n, e2, h1, h2, h3⟩, hr⟩, hl, h => by
    subst e e2
    simp only [List.length_cons] at hl
    refine ⟨trivial, by rw [List.length_map]; exact Nat.lt_of_lt_of_le (show acc.length < 100 by omega) (by decide), ?_⟩
    simp only [gN, st, wYes, if_true, wCall, wCons, wFld, wVar, gt, fFld, h1, wNil]
    refine ⟨by simp, b, rs, rfl, hb, h2, h3, fun ah' he => ?_⟩
    have ih := styles_loop (t := t) (q := q) hb ss rss (acc ++ [lim rs]) ah' (hr.ext he) (by simp; omega) fun ah2 he2 => by
      rw [List.append_assoc]
      exact h ah2 (he.trans he2)
    rw [List.map_append] at ih
    exact ih
theorem wp_limit (ds : List D) (ah : AH) (q : QE) (x : QX) (h : sp_limit ds ah q x) : w_limit (startD 2 ds) ah { nx := fun _ ah' => q .non ah', rt := q } (fun e _ ah' => x e ah') := by
  obtain ⟨b, ss, rss, rfl, hb, hs, hne, hl, hq⟩ := h
  show w_limit [some (.tup ss), none] ah _ _
  unfold w_limit
  simp only [wRet, wCal, wCons, wLc, wIter, wVar, gt, fIter, nos, no, wNil]
  refine styles_loop hb ss rss [] ah hs (by simp; omega) fun ah' he => ?_
  cases ss with
  | nil => exact (hne rfl).elim
  | cons s ss =>
    obtain ⟨r0, rr, rfl, _, _⟩ := hs
    rw [List.nil_append, List.map_cons]
    exact gMaxL_of (a := lim r0) (get_push _ _) (hq _ _ (he.trans (Ext.push _)) ⟨r0, rr, rfl, rfl⟩)
end Z
namespace Z
open PySem PySem.Spec PyProof.Rows L2
theorem fm_lst {ah1 ah2 : AH} {l : List D} (h4 : 4 ≤ ah1.length) (f : Fm (ah1 ++ [O.lst l]) ah2) : ah2[ah1.length]? = some (.lst l) := f _ _ h4 (get_push _ _)
theorem draw_of {many a : Nat} {ah : AH} {q : QE} {x : QX} (h0 : 0 < many) (h1 : many < 2 ^ 64) (hs : SI a ah) (ha : a < 2 ^ 50) (h : ∀ (r : Nat) (ah' : AH), r < many → SI (a + 1) ah' → Fm ah ah' → q (.int r) ah') : sp__law_draw [.ref 3, .int (many : Nat)] ah q x := ⟨many, a, rfl, h0, h1, hs, ha, h⟩
/-! ### _law_condition -/
def sp__law_condition : DSp := fun ds ah q _ => ∃ b most a : Nat, ds = [.ref 3, .int b, .int most] ∧ 2 ≤ b ∧ b ≤ 10 ∧ 1 ≤ most ∧ most ≤ 6 ∧ SI a ah ∧ a < 2 ^ 40 ∧
  ∀ (c : D) (a' : Nat) (ah' : AH), condB b c = true → a' ≤ a + 20 → SI a' ah' → Fm ah ah' → q c ah'
def w__law_condition : WS := (wSeq (wPar 3 4 (wCons (wCall sp__law_draw [] (wCons (wVar 0) (wCons (wC (.int 4)) wNil))) (wCons (wBin fAdd (wC (.int 1)) (wCall sp__law_draw [] (wCons (wVar 0) (wCons (wVar 2) wNil)))) wNil))) (wSeq (wAsg (wBin fAt (wLst (wCons (wC .non) (wCons (wBin fAdd (wVar 4) (wCall sp__law_draw [] (wCons (wVar 0) (wCons (wBin fAdd (wBin fSub (wVar 2) (wVar 4)) (wC (.int 1))) wNil)))) wNil))) (wCall sp__law_draw [] (wCons (wVar 0) (wCons (wC (.int 2)) wNil)))) (gN 5)) (wSeq (wIf (wTst (wBin (fEq false) (wVar 3) (wC (.int 0)))) (wSeq (wAsg (wC (.str "")) (gN 6)) (wSeq (wFor (wRng1 (wCons (wBin fAdd (wC (.int 1)) (wCall sp__law_draw [] (wCons (wVar 0) (wCons (wCal gMin2 (wCons (wC (.int 2)) (wCons (wVar 2) wNil))) wNil)))) wNil)) (gN 7) (wAsg (wBin fAdd (wVar 6) (wBin fAt (wC (.str "0123456789")) (wCall sp__law_draw [] (wCons (wVar 0) (wCons (wVar 1) wNil))))) (gN 6))) (wRet (wTup (wCons (wC (.str "ends")) (wCons (wVar 6) wNil)))))) wNext) (wSeq (wIf (wTst (wBin (fEq false) (wVar 3) (wC (.int 1)))) (wRet (wTup (wCons (wC (.str "near")) (wCons (wBin fSub (wVar 4) (wCall sp__law_draw [] (wCons (wVar 0) (wCons (wC (.int 2)) wNil)))) wNil)))) wNext) (wRet (wTup (wCons (wBin fAt (wLst (wCons (wC (.str "length")) (wCons (wC (.str "changed")) wNil))) (wBin fSub (wVar 3) (wC (.int 2)))) (wCons (wVar 4) (wCons (wVar 5) wNil)))))))))
theorem areB_dg {b : Nat} {l : List Nat} (h : l ≠ []) (hl : ∀ d ∈ l, d < b) : areB b (.str (dg l)) = true := by
  unfold areB
  rw [Bool.and_eq_true]
  refine ⟨decide_eq_true (dg_ne h), ?_⟩
  rw [dg_cps, List.all_map, List.all_eq_true]
  intro d hd
  have := hl d hd
  simp only [Function.comp, Bool.and_eq_true, decide_eq_true_eq]
  omega
theorem ends_ok {b : Nat} {l : List Nat} (h : l ≠ []) (hl : ∀ d ∈ l, d < b) (h2 : l.length ≤ 2) : condB b (.tup [.str "ends", .str (dg l)]) = true := by
  have e : condB b (.tup [.str "ends", .str (dg l)]) = (areB b (.str (dg l)) && le2 (.str (dg l))) := by simp only [condB, if_pos]
  rw [e, areB_dg h hl]
  show decide _ = true
  rw [dg_len]
  exact decide_eq_true h2
theorem near_ok {b : Nat} {i : Nat} (h : i ≤ 6) : condB b (.tup [.str "near", .int (i : Nat)]) = true := by
  rw [show condB b (.tup [.str "near", .int (i : Nat)]) = (if ("near" : Str) = "ends" then areB b (.int (i : Nat)) && le2 (.int (i : Nat)) else if ("near" : Str) = "near" then among (.int (i : Nat)) 0 6 else false) from rfl]
  rw [if_neg kne.2.2.2.2, if_pos rfl]
  unfold among
  simp only [Bool.and_eq_true, decide_eq_true_eq]
  omega
theorem size_ok {b : Nat} {k : Str} {lo : Nat} {top : D} (hk : k = "length" ∨ k = "changed") (h1 : 1 ≤ lo) (h6 : lo ≤ 6) (ht : top = .non ∨ ∃ t : Nat, top = .int t ∧ lo ≤ t ∧ t ≤ 6) : condB b (.tup [.str k, .int lo, top]) = true := by
  rw [show condB b (.tup [.str k, .int lo, top]) = ((decide (k = "length") || decide (k = "changed")) && (among (.int lo) 1 6 && (isNon top || amongD top (.int lo)))) from rfl]
  have e1 : (decide (k = "length") || decide (k = "changed")) = true := by simpa using hk
  have e2 : among (.int (lo : Int)) 1 6 = true := by
    unfold among
    simp only [Bool.and_eq_true, decide_eq_true_eq]
    omega
  rw [e1, e2]
  rcases ht with rfl | ⟨t, rfl, h3, h4⟩
  · rfl
  · have : amongD (.int (t : Int)) (.int (lo : Int)) = true := by
      rw [show amongD (.int (t : Int)) (.int (lo : Int)) = among (.int (t : Int)) lo 6 from rfl]
      unfold among
      simp only [Bool.and_eq_true, decide_eq_true_eq]
      omega
    rw [this, Bool.or_true]; rfl
theorem digits_loop {b : Nat} {e2 e3 e4 e5 : Option D} (h2 : 2 ≤ b) (hb : b ≤ 10) : ∀ (l : List D) (t : List Nat) (a : Nat) (o : Option D) (ah : AH) (dn : DEnds) (x : QXS), SI a ah → a + l.length < 2 ^ 50 → (∀ d ∈ t, d < b) → t.length + l.length ≤ 100 →
    (∀ (t' : List Nat) (a' : Nat) (o : Option D) (ah' : AH), (∀ d ∈ t', d < b) → t'.length = t.length + l.length → a' ≤ a + l.length → SI a' ah' → Fm ah ah' → dn.nx [some (.ref 3), some (.int b), e2, e3, e4, e5, some (.str (dg t')), o] ah') →
    forGo (fun _ => True) (gN 7) (wAsg (wBin fAdd (wVar 6) (wBin fAt (wC (.str "0123456789")) (wCall sp__law_draw [] (wCons (wVar 0) (wCons (wVar 1) wNil))))) (gN 6)) dn x l [some (.ref 3), some (.int b), e2, e3, e4, e5, some (.str (dg t)), o] ah
  | [], t, a, o, ah, dn, x, hs, ha, ht, hl, h => ⟨trivial, h t a o ah ht (by simp) (by simp) hs Fm.refl⟩
  | d :: l, t, a, o, ah, dn, x, hs, ha, ht, hl, h => by
    simp only [List.length_cons] at ha h hl
    refine ⟨trivial, b, a, rfl, by omega, by omega, hs, by omega, fun r ah1 hr s1 f1 => ?_⟩
    have ih := digits_loop (e2 := e2) (e3 := e3) (e4 := e4) (e5 := e5) h2 hb l (t ++ [r]) (a + 1) (some d) ah1 dn x s1 (by omega) (fun y hy => by
      rcases List.mem_append.mp hy with z | z
      · exact ht y z
      · rw [List.mem_singleton.mp z]; exact hr) (by simp; omega) fun t' a' o' ah' ht' hl' ha' hs' fm' => h t' a' o' ah' ht' (by simp at hl'; omega) (by omega) hs' (f1.trans fm')
    show fAt _ _ _ _
    simp only [fAt, fIx]
    refine ⟨figs_len, ?_⟩
    rw [at_figs (by omega)]
    simp only [fAdd]
    refine ⟨?_, ?_⟩
    · show (dg t).length + (dg [r]).length ≤ sizeLine
      rw [dg_len, dg_len]
      exact size_line (by simp; omega)
    · rw [← dg_append] at ih
      exact ih
theorem wp__law_condition (ds : List D) (ah : AH) (q : QE) (x : QX) (h : sp__law_condition ds ah q x) : w__law_condition (startD 8 ds) ah { nx := fun _ ah' => q .non ah', rt := q } (fun e _ ah' => x e ah') := by
  obtain ⟨b, most, a, rfl, h2, hb, m1, m6, hs, ha, hq⟩ := h
  show w__law_condition [some (.ref 3), some (.int b), some (.int most), none, none, none, none, none] ah _ _
  refine ⟨4, a, rfl, by decide, by decide, hs, by omega, fun way ah1 hway s1 f1 => ?_⟩
  refine ⟨most, a + 1, rfl, by omega, by omega, s1, by omega, fun r2 ah2 hr2 s2 f2 => ?_⟩
  have el : ∀ k : Nat, ((1 : Int) + (k : Nat)) = ((1 + k : Nat) : Int) := fun k => by omega
  refine ⟨most - (1 + r2) + 1, a + 1 + 1, ?_, by omega, by omega, s2, by omega, fun r3 ah3 hr3 s3 f3 => ?_⟩
  · show [D.ref 3, D.int _] = _
    congr 3
    omega
  refine ⟨show 2 ≤ 16777216 by decide, 2, a + 1 + 1 + 1, rfl, by decide, by decide, s3.ext (Ext.push _), by omega, fun r4 ah4 hr4 s4 f4 => ?_⟩
  have g := fm_lst s3.len f4
  have fm : Fm ah ah4 := f1.trans (f2.trans (f3.trans ((Ext.push _).fm.trans f4)))
  obtain ⟨top, et, htop⟩ : ∃ top : D, [D.non, D.int ((1 : Int) + r2 + r3)][r4]? = some top ∧ (top = .non ∨ ∃ t : Nat, top = .int t ∧ 1 + r2 ≤ t ∧ t ≤ 6) := by
    have c : r4 = 0 ∨ r4 = 1 := by omega
    rcases c with rfl | rfl
    · exact ⟨.non, rfl, .inl rfl⟩
    · refine ⟨_, rfl, .inr ⟨1 + r2 + r3, ?_, by omega, by omega⟩⟩
      congr 1
  refine pick g et ?_
  simp only [wIf, wTst, wBin, wVar, wC, gN, gt, st, fEq, wSeq]
  by_cases w0 : way = 0
  · subst w0
    refine ite_t ?_
    simp only [wAsg, wC, gN, st]
    rw [show ("" : Str) = dg [] from by decide +kernel]
    refine ⟨min 2 most, a + 1 + 1 + 1 + 1, ?_, by omega, by omega, s4, by omega, fun r5 ah5 hr5 s5 f5 => ⟨by omega, by omega, ?_⟩⟩
    · show [D.ref 3, D.int _] = _
      congr 3
      split <;> omega
    have hlen : (rangeD 0 ((1 : Int) + (r5 : Nat)).toNat).length = 1 + r5 := by rw [rangeD_len]; omega
    refine digits_loop h2 hb _ [] (a + 1 + 1 + 1 + 1 + 1) none ah5 _ _ s5 (by rw [hlen]; omega) (by simp) (by rw [hlen]; simp; omega) fun t' a' o ah' ht' hl' ha' hs' fm' => ?_
    rw [hlen] at hl' ha'
    refine ⟨show 2 ≤ 16777216 by decide, ?_⟩
    exact hq _ a' ah' (ends_ok (fun z => by subst z; simp at hl'; omega) ht' (by simp at hl'; omega)) (by omega) hs' (fm.trans (f5.trans fm'))
  · rw [decide_eq_false (by omega)]
    refine ite_f ?_
    simp only [wNext, gt]
    by_cases w1 : way = 1
    · subst w1
      refine ite_t ?_
      refine ⟨2, a + 1 + 1 + 1 + 1, rfl, by decide, by decide, s4, by omega, fun r5 ah5 hr5 s5 f5 => ⟨show 2 ≤ 16777216 by decide, ?_⟩⟩
      have e : ((1 : Int) + r2 - r5) = ((1 + r2 - r5 : Nat) : Int) := by omega
      show q (.tup [.str "near", .int ((1 : Int) + r2 - r5)]) ah5
      rw [e]
      exact hq _ _ ah5 (near_ok (by omega)) (by omega) s5 (fm.trans f5)
    · rw [decide_eq_false (by omega)]
      refine ite_f ?_
      simp only [wNext, wRet, wTup, wCons, wNil, wBin, wLst, wVar, wC, gt, newL, fSub]
      refine ⟨show 2 ≤ 16777216 by decide, ?_⟩
      have ew : ((way : Int) - 2) = ((way - 2 : Nat) : Int) := by omega
      rw [ew]
      obtain ⟨k, ek, hk⟩ : ∃ k : Str, [D.str "length", D.str "changed"][way - 2]? = some (.str k) ∧ (k = "length" ∨ k = "changed") := by
        have c : way = 2 ∨ way = 3 := by omega
        rcases c with rfl | rfl
        · exact ⟨_, rfl, .inl rfl⟩
        · exact ⟨_, rfl, .inr rfl⟩
      refine pick (get_push _ _) ek ?_
      refine ⟨show 3 ≤ 16777216 by decide, ?_⟩
      rw [el r2]
      exact hq _ _ _ (size_ok hk (by omega) (by omega) htop) (by omega) (s4.ext (Ext.push _)) (fm.trans (Ext.push _).fm)
end Z
namespace Z
open PySem PySem.Spec PyProof.Rows L2
/-! ### _law_keep -/
def sp__law_keep : DSp := fun ds ah q _ => ∃ most a : Nat, ds = [.ref 3, .int most] ∧ 1 ≤ most ∧ most ≤ 6 ∧ SI a ah ∧ a < 2 ^ 45 ∧ ∀ (k : D) (a' : Nat) (ah' : AH), keepB k = true → a' ≤ a + 2 → SI a' ah' → Fm ah ah' → q k ah'
def w__law_keep : WS := (wSeq (wPar 2 3 (wCons (wBin fAt (wLst (wCons (wC (.str "all")) (wCons (wC (.str "changed")) (wCons (wC (.str "last")) (wCons (wC (.str "last")) wNil))))) (wCall sp__law_draw [] (wCons (wVar 0) (wCons (wC (.int 4)) wNil)))) (wCons (wBin fAdd (wC (.int 1)) (wCall sp__law_draw [] (wCons (wVar 0) (wCons (wVar 1) wNil)))) wNil))) (wRet (wIfE (wTst (wBin (fEq false) (wVar 2) (wC (.str "all")))) (wTup (wCons (wVar 2) wNil)) (wTup (wCons (wVar 2) (wCons (wVar 3) wNil))))))
theorem keep_all : keepB (.tup [.str "all"]) = true := by decide +kernel
theorem keep_n {k : Str} {n : Nat} (hk : k = "changed" ∨ k = "last") (h1 : 1 ≤ n) (h6 : n ≤ 6) : keepB (.tup [.str k, .int n]) = true := by
  rw [show keepB (.tup [.str k, .int n]) = ((decide (k = "changed") || decide (k = "last")) && among (.int n) 1 6) from rfl]
  have e1 : (decide (k = "changed") || decide (k = "last")) = true := by simpa using hk
  rw [e1]
  unfold among
  simp only [Bool.true_and, Bool.and_eq_true, decide_eq_true_eq]
  omega
theorem wp__law_keep (ds : List D) (ah : AH) (q : QE) (x : QX) (h : sp__law_keep ds ah q x) : w__law_keep (startD 4 ds) ah { nx := fun _ ah' => q .non ah', rt := q } (fun e _ ah' => x e ah') := by
  obtain ⟨most, a, rfl, m1, m6, hs, ha, hq⟩ := h
  show w__law_keep [some (.ref 3), some (.int most), none, none] ah _ _
  refine ⟨show 4 ≤ 16777216 by decide, 4, a, rfl, by decide, by decide, hs.ext (Ext.push _), by omega, fun r1 ah1 hr1 s1 f1 => ?_⟩
  have g := fm_lst hs.len f1
  have fm : Fm ah ah1 := (Ext.push _).fm.trans f1
  obtain ⟨k, ek, hk⟩ : ∃ k : Str, [D.str "all", D.str "changed", D.str "last", D.str "last"][r1]? = some (.str k) ∧ (k = "all" ∨ k = "changed" ∨ k = "last") := by
    have c : r1 = 0 ∨ r1 = 1 ∨ r1 = 2 ∨ r1 = 3 := by omega
    rcases c with rfl | rfl | rfl | rfl
    · exact ⟨_, rfl, .inl rfl⟩
    · exact ⟨_, rfl, .inr (.inl rfl)⟩
    · exact ⟨_, rfl, .inr (.inr rfl)⟩
    · exact ⟨_, rfl, .inr (.inr rfl)⟩
  refine pick g ek ?_
  refine ⟨most, a + 1, rfl, by omega, by omega, s1, by omega, fun r2 ah2 hr2 s2 f2 => ?_⟩
  simp only [wRet, wIfE, wTst, wBin, wVar, wC, gt, st, fEq, wNil, fAdd]
  by_cases hk0 : k = "all"
  · rw [decide_eq_true hk0, Bool.false_bne, if_pos rfl]
    refine ⟨show 1 ≤ 16777216 by decide, ?_⟩
    subst hk0
    exact hq _ _ ah2 keep_all (by omega) s2 (fm.trans f2)
  · rw [decide_eq_false hk0, Bool.false_bne, if_neg (by decide)]
    refine ⟨show 2 ≤ 16777216 by decide, ?_⟩
    show q (.tup [.str k, .int ((1 : Int) + r2)]) ah2
    rw [show ((1 : Int) + r2) = ((1 + r2 : Nat) : Int) by omega]
    exact hq _ _ ah2 (keep_n (hk.resolve_left hk0) (by omega) (by omega)) (by omega) s2 (fm.trans f2)
/-! ### _law_rules -/
def sp__law_rules : DSp := fun ds ah q _ => ∃ b most many a : Nat, ds = [.ref 3, .int b, .int most, .int many] ∧ 2 ≤ b ∧ b ≤ 10 ∧ 1 ≤ most ∧ most ≤ 6 ∧ many ≤ 7 ∧ SI a ah ∧ a < 2 ^ 39 ∧
  ∀ (rs : List D) (a' : Nat) (ah' : AH), rs.all (ruleB b) = true → 1 ≤ rs.length → rs.length ≤ 8 → (lastC rs) = [] → a' ≤ a + 2000 → SI a' ah' → Fm ah ah' → q (.tup rs) ah'
def w__law_rules : WS := (wSeq (wAsg (wLst wNil) (gN 4)) (wSeq (wFor (wRng1 (wCons (wCall sp__law_draw [] (wCons (wVar 0) (wCons (wBin fAdd (wVar 3) (wC (.int 1))) wNil))) wNil)) (gN 5) (wSeq (wAsg (wCal gTuple (wCons (wLc [7] (wRng1 (wCons (wBin fAt (wLst (wCons (wC (.int 1)) (wCons (wC (.int 1)) (wCons (wC (.int 1)) (wCons (wC (.int 2)) (wCons (wC (.int 2)) (wCons (wC (.int 3)) (wCons (wC (.int 0)) wNil)))))))) (wCall sp__law_draw [] (wCons (wVar 0) (wCons (wC (.int 7)) wNil)))) wNil)) (gN 7) wYes (wCall sp__law_condition [] (wCons (wVar 0) (wCons (wVar 1) (wCons (wVar 2) wNil))))) wNil)) (gN 6)) (wExpr (wMet isLst fAppend (wVar 4) (wCons (wTup (wCons (wVar 6) (wCons (wCall sp__law_keep [] (wCons (wVar 0) (wCons (wVar 2) wNil))) wNil))) wNil))))) (wRet (wBin fAdd (wCal gTuple (wCons (wVar 4) wNil)) (wTup (wCons (wTup (wCons (wTup wNil) (wCons (wCall sp__law_keep [] (wCons (wVar 0) (wCons (wVar 2) wNil))) wNil))) wNil))))))
theorem conds_made {b most : Nat} {q : QE} {e3 e4 e5 e6 : Option D} (h2 : 2 ≤ b) (hb : b ≤ 10) (m1 : 1 ≤ most) (m6 : most ≤ 6) : ∀ (l : List D) (acc : List D) (a : Nat) (ah : AH), acc.all (condB b) = true → acc.length + l.length ≤ 3 → SI a ah → a + 20 * l.length < 2 ^ 40 →
    (∀ (cs : List D) (a' : Nat) (ah' : AH), cs.all (condB b) = true → cs.length ≤ 3 → a' ≤ a + 20 * l.length → SI a' ah' → Fm ah ah' → newL cs ah' q) →
    lcGo (fun _ => True) (gN 7) wYes (wCall sp__law_condition [] (wCons (wVar 0) (wCons (wVar 1) (wCons (wVar 2) wNil)))) [some (.ref 3), some (.int b), some (.int most), e3, e4, e5, e6, none] q l acc ah
  | [], acc, a, ah, hc, hl, hs, ha, h => ⟨trivial, h acc a ah hc (by simpa using hl) (by simp) hs Fm.refl⟩
  | d :: l, acc, a, ah, hc, hl, hs, ha, h => by
    simp only [List.length_cons] at hl ha h
    refine ⟨trivial, Nat.lt_of_lt_of_le (show acc.length < 100 by omega) (by decide), b, most, a, rfl, h2, hb, m1, m6, hs, by omega, fun c a1 ah1 hc1 ha1 s1 f1 => ?_⟩
    exact conds_made h2 hb m1 m6 l (acc ++ [c]) a1 ah1 (by rw [List.all_append, hc]; simpa using hc1) (by simp; omega) s1 (by omega) fun cs a' ah' hcs hl' ha' hs' fm' => h cs a' ah' hcs hl' (by omega) hs' (f1.trans fm')
theorem ruleB_of {b : Nat} {cs : List D} {k : D} (h3 : cs.length ≤ 3) (hc : cs.all (condB b) = true) (hk : keepB k = true) : ruleB b (.tup [.tup cs, k]) = true := by
  show (decide (cs.length ≤ 3) && (cs.all (condB b) && keepB k)) = true
  rw [decide_eq_true h3, hc, hk]; rfl
abbrev w_rules1 : WS := (wSeq (wAsg (wCal gTuple (wCons (wLc [7] (wRng1 (wCons (wBin fAt (wLst (wCons (wC (.int 1)) (wCons (wC (.int 1)) (wCons (wC (.int 1)) (wCons (wC (.int 2)) (wCons (wC (.int 2)) (wCons (wC (.int 3)) (wCons (wC (.int 0)) wNil)))))))) (wCall sp__law_draw [] (wCons (wVar 0) (wCons (wC (.int 7)) wNil)))) wNil)) (gN 7) wYes (wCall sp__law_condition [] (wCons (wVar 0) (wCons (wVar 1) (wCons (wVar 2) wNil))))) wNil)) (gN 6)) (wExpr (wMet isLst fAppend (wVar 4) (wCons (wTup (wCons (wVar 6) (wCons (wCall sp__law_keep [] (wCons (wVar 0) (wCons (wVar 2) wNil))) wNil))) wNil))))
theorem rules_made {b most n : Nat} {e3 : Option D} (h2 : 2 ≤ b) (hb : b ≤ 10) (m1 : 1 ≤ most) (m6 : most ≤ 6) (hn : 4 ≤ n) : ∀ (l : List D) (acc : List D) (a : Nat) (o5 o6 o7 : Option D) (ah : AH) (dn : DEnds) (x : QXS), acc.all (ruleB b) = true → acc.length + l.length ≤ 7 → SI a ah → ah[n]? = some (.lst acc) → a + 100 * l.length < 2 ^ 40 →
    (∀ (rs : List D) (a' : Nat) (o5 o6 o7 : Option D) (ah' : AH), rs.all (ruleB b) = true → rs.length ≤ 7 → a' ≤ a + 100 * l.length → SI a' ah' → ah'[n]? = some (.lst rs) → (∀ m o, 4 ≤ m → m ≠ n → ah[m]? = some o → ah'[m]? = some o) → dn.nx [some (.ref 3), some (.int b), some (.int most), e3, some (.ref n), o5, o6, o7] ah') →
    forGo (fun _ => True) (gN 5) w_rules1 dn x l [some (.ref 3), some (.int b), some (.int most), e3, some (.ref n), o5, o6, o7] ah
  | [], acc, a, o5, o6, o7, ah, dn, x, hc, hl, hs, hA, ha, h => ⟨trivial, h acc a o5 o6 o7 ah hc (by simpa using hl) (by simp) hs hA fun _ _ _ _ e => e⟩
  | d :: l, acc, a, o5, o6, o7, ah, dn, x, hc, hl, hs, hA, ha, h => by
    simp only [List.length_cons] at hl ha h
    refine ⟨trivial, ?_⟩
    simp only [gN, st, wSeq, wAsg, wCal, wCons, wLc, wRng1, wBin, wLst, wC, wNil, newL, nos, no]
    refine ⟨show 7 ≤ 16777216 by decide, 7, a, rfl, by decide, by decide, hs.ext (Ext.push _), by omega, fun r1 ah1 hr1 s1 f1 => ?_⟩
    have g := fm_lst hs.len f1
    have fm1 : Fm ah ah1 := (Ext.push _).fm.trans f1
    obtain ⟨j, ej, hj⟩ : ∃ j : Nat, [D.int 1, .int 1, .int 1, .int 2, .int 2, .int 3, .int 0][r1]? = some (.int j) ∧ j ≤ 3 := by
      have c : r1 = 0 ∨ r1 = 1 ∨ r1 = 2 ∨ r1 = 3 ∨ r1 = 4 ∨ r1 = 5 ∨ r1 = 6 := by omega
      rcases c with rfl | rfl | rfl | rfl | rfl | rfl | rfl
      · exact ⟨1, rfl, by omega⟩
      · exact ⟨1, rfl, by omega⟩
      · exact ⟨1, rfl, by omega⟩
      · exact ⟨2, rfl, by omega⟩
      · exact ⟨2, rfl, by omega⟩
      · exact ⟨3, rfl, by omega⟩
      · exact ⟨0, rfl, by omega⟩
    refine pick g ej ⟨by omega, by omega, ?_⟩
    have hlen : (rangeD 0 ((j : Nat) : Int).toNat).length = j := by rw [rangeD_len]; simp
    refine conds_made h2 hb m1 m6 _ [] (a + 1) ah1 rfl (by rw [hlen]; simpa using hj) s1 (by rw [hlen]; omega) fun cs a2 ah2 hcs hl3 ha2 s2 f2 => ?_
    rw [hlen] at ha2
    simp only [newL, gTuple, get_push]
    have s3 := s2.ext (Ext.push [O.lst cs])
    have f3 : Fm ah (ah2 ++ [O.lst cs]) := fm1.trans (f2.trans (Ext.push _).fm)
    have hA3 : (ah2 ++ [O.lst cs])[n]? = some (.lst acc) := f3 _ _ hn hA
    simp only [wExpr, wMet, wVar, gt, wCons, wTup, wCall, wNil]
    refine ⟨isLst_of hA3, most, a2, rfl, m1, m6, s3, by omega, fun k a4 ah4 hk ha4 s4 f4 => ⟨show 2 ≤ 16777216 by decide, ?_⟩⟩
    have hA4 : ah4[n]? = some (.lst acc) := f4 _ _ hn hA3
    have hlt : n < ah4.length := (List.getElem?_eq_some_iff.mp hA4).1
    simp only [fAppend, hA4]
    refine ⟨Nat.lt_of_lt_of_le (show acc.length < 100 by omega) (by decide), ?_⟩
    have s5 : SI a4 (ah4.set n (O.lst (acc ++ [.tup [.tup cs, k]]))) := by
      obtain ⟨c1, l1, g1, g2, g3, r⟩ := s4.ex
      exact ⟨c1, l1, by rw [List.getElem?_set_ne (by omega)]; exact g1, by rw [List.getElem?_set_ne (by omega)]; exact g2, by rw [List.getElem?_set_ne (by omega)]; exact g3, r⟩
    refine rules_made h2 hb m1 m6 hn l (acc ++ [.tup [.tup cs, k]]) a4 _ _ _ _ dn x (by rw [List.all_append, hc]; simpa using ruleB_of hl3 hcs hk) (by simp; omega) s5 (by rw [List.getElem?_set_self hlt]) (by omega) fun rs a' o5 o6 o7 ah' hrs hl' ha' hs' hA' fr => h rs a' o5 o6 o7 ah' hrs hl' (by omega) hs' hA' fun m o hm hne e => fr m o hm hne ?_
    rw [List.getElem?_set_ne (Ne.symm hne)]
    exact f4 _ _ hm (f3 _ _ hm e)
end Z
namespace Z
open PySem PySem.Spec PyProof.Rows L2
theorem wp__law_rules (ds : List D) (ah : AH) (q : QE) (x : QX) (h : sp__law_rules ds ah q x) : w__law_rules (startD 8 ds) ah { nx := fun _ ah' => q .non ah', rt := q } (fun e _ ah' => x e ah') := by
  obtain ⟨b, most, many, a, rfl, h2, hb, m1, m6, hm, hs, ha, hq⟩ := h
  show w__law_rules [some (.ref 3), some (.int b), some (.int most), some (.int many), none, none, none, none] ah _ _
  refine ⟨by decide, ?_⟩
  have s0 := hs.ext (Ext.push [O.lst []])
  refine ⟨many + 1, a, ?_, by omega, by omega, s0, by omega, fun r1 ah1 hr1 s1 f1 => ⟨by omega, by omega, ?_⟩⟩
  · show [D.ref 3, D.int _] = _
    congr 3
  have hA : ah1[ah.length]? = some (.lst []) := fm_lst hs.len f1
  have hlen : (rangeD 0 ((r1 : Nat) : Int).toNat).length = r1 := by rw [rangeD_len]; simp
  refine rules_made h2 hb m1 m6 hs.len _ [] (a + 1) none none none ah1 _ _ rfl (by rw [hlen]; simp; omega) s1 hA (by rw [hlen]; omega) fun rs a2 o5 o6 o7 ah2 hrs hl7 ha2 s2 hA2 fr => ?_
  rw [hlen] at ha2
  simp only [wRet, wBin, wCal, wCons, wVar, gt, wNil, gTuple, hA2, wTup, wCall]
  refine ⟨by decide, most, a2, rfl, m1, m6, s2, by omega, fun k a3 ah3 hk ha3 s3 f3 => ⟨show 2 ≤ 16777216 by decide, show 1 ≤ 16777216 by decide, ?_⟩⟩
  simp only [fAdd]
  refine ⟨Nat.le_trans (show rs.length + 1 ≤ 100 by omega) (by decide), ?_⟩
  refine hq (rs ++ [.tup [.tup [], k]]) a3 ah3 ?_ (by simp) (by simp; omega) ?_ (by omega) s3 ?_
  · rw [List.all_append, hrs]
    simpa using ruleB_of (b := b) (cs := []) (by decide) rfl hk
  · unfold lastC
    rw [List.getLast?_append]
    rfl
  · intro m o hm4 e
    have hlt : m < ah.length := (List.getElem?_eq_some_iff.mp e).1
    exact f3 _ _ hm4 (fr m o hm4 (by omega) (f1 _ _ hm4 (Ext.push _ _ _ e)))
/-! ### _law_limit -/
def sp__law_limit : DSp := fun ds ah q _ => ∃ (b : Nat) (rs : List D), ds = [.tup rs] ∧ b ≤ 10 ∧ rs.all (ruleB b) = true ∧ rs.length ≤ 8 ∧ ∀ ah', Ext ah ah' → q (.int (lim rs)) ah'
def w__law_limit : WS := (wSeq (wAsg (wC (.int 1)) (gN 1)) (wSeq (wFor (wIter (wVar 0)) (gT 2 (gsC (gN 2) (gsC (gN 3) gsN))) (wSeq (wAsg (wCal gMaxL (wCons (wBin fAdd (wLst (wCons (wVar 1) wNil)) (wLc [5] (wIter (wSl (wVar 3) (wPart (wC (.int 1))) wNoPart)) (gN 5) wYes (wVar 5))) wNil)) (gN 1)) (wFor (wIter (wVar 2)) (gN 4) (wIf (wTst (wBin (fEq false) (wBin fAt (wVar 4) (wC (.int 0))) (wC (.str "ends")))) (wAsg (wCal gMax2 (wCons (wVar 1) (wCons (wCal gLen (wCons (wBin fAt (wVar 4) (wC (.int 1))) wNil)) wNil))) (gN 1)) (wAsg (wCal gMaxL (wCons (wBin fAdd (wLst (wCons (wVar 1) wNil)) (wLc [5] (wIter (wSl (wVar 4) (wPart (wC (.int 1))) wNoPart)) (gN 5) (wTst (wBin (fIs true) (wVar 5) (wC .non))) (wVar 5))) wNil)) (gN 1)))))) (wRet (wVar 1))))
theorem catmax {f : Int} {l : List Int} {n m : Nat} {ah : AH} {q : QE} (h1 : ah[n]? = some (.lst [.int f])) (h2 : ah[m]? = some (.lst (l.map D.int))) (hl : l.length < 1000) (hq : ∀ ah', Ext ah ah' → q (.int (maxI f l)) ah') :
    fAdd (.ref n) (.ref m) ah fun d ah1 => gMaxL [d] ah1 q := by
  simp only [fAdd, h1, h2, newL]
  refine ⟨by rw [List.length_map]; exact Nat.le_trans (show 1 + l.length ≤ 10000 by omega) (by decide), ?_⟩
  exact gMaxL_of (a := f) (l := l) (get_push _ _) (hq _ (Ext.push _))
abbrev w_ll1 : WS := (wIf (wTst (wBin (fEq false) (wBin fAt (wVar 4) (wC (.int 0))) (wC (.str "ends")))) (wAsg (wCal gMax2 (wCons (wVar 1) (wCons (wCal gLen (wCons (wBin fAt (wVar 4) (wC (.int 1))) wNil)) wNil))) (gN 1)) (wAsg (wCal gMaxL (wCons (wBin fAdd (wLst (wCons (wVar 1) wNil)) (wLc [5] (wIter (wSl (wVar 4) (wPart (wC (.int 1))) wNoPart)) (gN 5) (wTst (wBin (fIs true) (wVar 5) (wC .non))) (wVar 5))) wNil)) (gN 1)))
theorem numsOf_len : ∀ l : List D, (numsOf l).length ≤ l.length := fun l => by
  induction l with
  | nil => simp [numsOf]
  | cons d l ih => cases d <;> simp only [numsOf, List.length_cons] <;> omega
theorem ll_conds {b : Nat} {r0 c0 k0 : Option D} (hb : b ≤ 10) : ∀ (cs : List D) (f : Int) (o o5 : Option D) (ah : AH) (dn : DEnds) (x : QXS), cs.all (condB b) = true →
    (∀ o o5 ah', Ext ah ah' → dn.nx [r0, some (.int (maxI f (cs.flatMap condSizes))), c0, k0, o, o5] ah') → forGo (fun _ => True) (gN 4) w_ll1 dn x cs [r0, some (.int f), c0, k0, o, o5] ah
  | [], f, o, o5, ah, dn, x, _, h => ⟨trivial, h o o5 ah Ext.refl⟩
  | c :: cs, f, o, o5, ah, dn, x, hc, h => by
    rw [List.all_cons, Bool.and_eq_true] at hc
    refine ⟨trivial, ?_⟩
    rcases cond_cases hc.1 with ⟨z, rfl, es, hz⟩ | ⟨k, rest, rfl, hk, es, hs, hr⟩
    · simp only [gN, st, wIf, wTst, wBin, wVar, wC, gt, fAt, fIx, at0, fEq, decide_true]
      refine ite_t ?_
      simp only [wAsg, wCal, wCons, wNil, wVar, wBin, wC, gt, fAt, fIx, at1, gLen, gMax2, gN, st]
      refine ⟨Nat.le_of_lt (Nat.lt_of_le_of_lt hz (by decide)), ?_⟩
      refine ll_conds hb cs _ _ _ ah dn x hc.2 fun o o5 ah' he => ?_
      have := h o o5 ah' he
      rw [List.flatMap_cons, es] at this
      exact this
    · simp only [gN, st, wIf, wTst, wBin, wVar, wC, gt, fAt, fIx, at0, fEq]
      rw [decide_eq_false hk]
      refine ite_f ?_
      simp only [wAsg, wCal, wCons, wNil, wBin, wLst, wVar, gt, newL, wLc, wIter, wSl, wPart, wNoPart, wC, fSl, fIter, cut_tail, nos, no]
      refine ⟨by simp; decide, ?_⟩
      refine sizes_loop rest [] _ hs (by simp; omega) ?_
      rw [List.nil_append]
      have hn := numsOf_len rest
      refine catmax (f := f) (l := numsOf rest) (Ext.push _ _ _ (get_push ah _)) (get_push _ _) (by omega) fun ah' he => ?_
      have he2 : Ext ah ah' := (Ext.push _).trans ((Ext.push _).trans he)
      refine ll_conds hb cs _ _ _ ah' dn x hc.2 fun o o5 ah2 he3 => ?_
      have := h o o5 ah2 (he2.trans he3)
      rw [List.flatMap_cons, es, maxI_append] at this
      exact this
theorem ll_rules {b : Nat} {r0 : Option D} (hb : b ≤ 10) : ∀ (rs : List D) (f : Int) (o2 o3 o4 o5 : Option D) (ah : AH) (dn : DEnds) (x : QXS), rs.all (ruleB b) = true →
    (∀ o2 o3 o4 o5 ah', Ext ah ah' → dn.nx [r0, some (.int (maxI f (rs.flatMap ruleSizes))), o2, o3, o4, o5] ah') →
    forGo (fun _ => True) (gT 2 (gsC (gN 2) (gsC (gN 3) gsN))) (wSeq (wAsg (wCal gMaxL (wCons (wBin fAdd (wLst (wCons (wVar 1) wNil)) (wLc [5] (wIter (wSl (wVar 3) (wPart (wC (.int 1))) wNoPart)) (gN 5) wYes (wVar 5))) wNil)) (gN 1)) (wFor (wIter (wVar 2)) (gN 4) w_ll1)) dn x rs [r0, some (.int f), o2, o3, o4, o5] ah
  | [], f, o2, o3, o4, o5, ah, dn, x, _, h => ⟨trivial, h o2 o3 o4 o5 ah Ext.refl⟩
  | r :: rs, f, o2, o3, o4, o5, ah, dn, x, hr, h => by
    rw [List.all_cons, Bool.and_eq_true] at hr
    obtain ⟨cs, w, ns, rfl, hc3, hc, es, hn⟩ := rule_cases hr.1
    refine ⟨trivial, rfl, ?_⟩
    simp only [gsC, gN, gsN, st, wSeq, wAsg, wCal, wCons, wNil, wBin, wLst, wVar, gt, newL, wLc, wIter, wSl, wPart, wNoPart, wC, fSl, fIter, cut_tail, nos, no]
    refine ⟨by simp; decide, ?_⟩
    refine all_loop ns [] _ (by simp; omega) ?_
    rw [List.nil_append]
    refine catmax (f := f) (l := ns) (Ext.push _ _ _ (get_push ah _)) (get_push _ _) (by omega) fun ah' he => ?_
    have he2 : Ext ah ah' := (Ext.push _).trans ((Ext.push _).trans he)
    simp only [wFor, wIter, wVar, gt, fIter]
    refine ll_conds hb cs _ _ _ ah' _ _ hc fun o4 o5 ah2 he3 => ?_
    refine ll_rules hb rs _ _ _ _ _ ah2 dn x hr.2 fun o2 o3 o4 o5 ah3 he4 => ?_
    have := h o2 o3 o4 o5 ah3 (he2.trans (he3.trans he4))
    rw [List.flatMap_cons, es, maxI_append, maxI_append] at this
    exact this
theorem wp__law_limit (ds : List D) (ah : AH) (q : QE) (x : QX) (h : sp__law_limit ds ah q x) : w__law_limit (startD 6 ds) ah { nx := fun _ ah' => q .non ah', rt := q } (fun e _ ah' => x e ah') := by
  obtain ⟨b, rs, rfl, hb, hr, hl, hq⟩ := h
  show w__law_limit [some (.tup rs), none, none, none, none, none] ah _ _
  unfold w__law_limit
  simp only [wSeq, wAsg, wC, gN, st, wFor, wIter, wVar, gt, fIter]
  exact ll_rules hb rs 1 none none none none ah _ _ hr fun o2 o3 o4 o5 ah' he => hq _ he
end Z
namespace Z
open PySem PySem.Spec PyProof.Rows L2
/-! ### the law -/
/-- styles made so far, none of them at a place of the state -/
def Stys (b : Nat) (ah : AH) : List D → List (List D) → Prop
  | [], rss => rss = []
  | s :: ss, rss => ∃ n r rr, s = .ref n ∧ 4 ≤ n ∧ rss = r :: rr ∧ ah[n]? = some (styO (.int b) r) ∧ r.all (ruleB b) = true ∧ r.length ≤ 8 ∧ Stys b ah ss rr
theorem Stys.keep {b : Nat} {ah ah' : AH} (h : ∀ n r, 4 ≤ n → ah[n]? = some (styO (.int b) r) → ah'[n]? = some (styO (.int b) r)) : ∀ {ss : List D} {rss : List (List D)}, Stys b ah ss rss → Stys b ah' ss rss
  | [], _, e => e
  | _ :: _, _, ⟨n, r, rr, e1, e2, e3, e4, e5, e6, e7⟩ => ⟨n, r, rr, e1, e2, e3, h n r e2 e4, e5, e6, Stys.keep h e7⟩
theorem Stys.snoc {b n : Nat} {ah : AH} {r : List D} (hn : 4 ≤ n) (h1 : ah[n]? = some (styO (.int b) r)) (h2 : r.all (ruleB b) = true) (h3 : r.length ≤ 8) : ∀ {ss : List D} {rss : List (List D)}, Stys b ah ss rss → Stys b ah (ss ++ [.ref n]) (rss ++ [r])
  | [], _, e => by cases e; exact ⟨n, r, [], rfl, hn, rfl, h1, h2, h3, rfl⟩
  | _ :: _, _, ⟨m, r', rr, e1, e2, e3, e4, e5, e6, e7⟩ => by subst e3; exact ⟨m, r', _, e1, e2, rfl, e4, e5, e6, Stys.snoc hn h1 h2 h3 e7⟩
theorem okD_cond {b : Nat} {c : D} {ah : AH} (h : condB b c = true) : okD ah c = true := by
  rcases cond_cases h with ⟨z, rfl, es, hz⟩ | ⟨k, rest, rfl, hk, es, hs, hr⟩
  · have h1 : ("ends" : Str).length < sizeLine := by decide +kernel
    have h2 : z.length < sizeLine := Nat.lt_of_le_of_lt hz (by decide)
    simp only [okD, okDs, decide_eq_true h1, decide_eq_true h2, Bool.and_self]
  · have hk2 : k.length < sizeLine := by
      have wl : ("near" : Str).length < sizeLine ∧ ("length" : Str).length < sizeLine ∧ ("changed" : Str).length < sizeLine := by decide +kernel
      unfold condB at h
      split at h
      · rename_i e
        cases e
        rw [if_neg hk] at h
        split at h
        · rename_i hk2; rw [hk2]; exact wl.1
        · cases h
      · rename_i e
        cases e
        simp only [Bool.and_eq_true, Bool.or_eq_true, decide_eq_true_eq] at h
        rcases h.1 with rfl | rfl
        · exact wl.2.1
        · exact wl.2.2
      · cases h
    have hr2 : ∀ l : List D, l.all sized = true → okDs ah l = true := fun l => by
      induction l with
      | nil => intro _; rfl
      | cons d l ih =>
        intro hl
        rw [List.all_cons, Bool.and_eq_true] at hl
        unfold okDs
        rw [ih hl.2]
        cases d <;> first | rfl | exact nomatch hl.1
    simp only [okD, okDs, decide_eq_true hk2, hr2 rest hs, Bool.and_self]
theorem okDs_all {ah : AH} : ∀ {l : List D}, (∀ d ∈ l, okD ah d = true) → okDs ah l = true
  | [], _ => rfl
  | d :: l, h => by
    unfold okDs
    rw [h d (by simp), okDs_all fun e he => h e (List.mem_cons_of_mem _ he)]; rfl
theorem okD_keep {k : D} {ah : AH} (h : keepB k = true) : okD ah k = true := by
  unfold keepB at h
  split at h
  · have e := of_decide_eq_true h
    subst e
    have h1 : ("all" : Str).length < sizeLine := by decide +kernel
    simp only [okD, okDs, decide_eq_true h1, Bool.and_self]
  · rw [Bool.and_eq_true] at h
    obtain ⟨i, rfl⟩ := among_int h.2
    have h1 := h.1
    simp only [Bool.or_eq_true, decide_eq_true_eq] at h1
    have wl : ("last" : Str).length < sizeLine ∧ ("changed" : Str).length < sizeLine := by decide +kernel
    rcases h1 with rfl | rfl
    · simp only [okD, okDs, decide_eq_true wl.2, Bool.and_self]
    · simp only [okD, okDs, decide_eq_true wl.1, Bool.and_self]
  · cases h
theorem okD_rule {b : Nat} {r : D} {ah : AH} (h : ruleB b r = true) : okD ah r = true := by
  unfold ruleB at h
  split at h
  · rename_i cs k
    simp only [Bool.and_eq_true, decide_eq_true_eq, List.all_eq_true] at h
    have e1 : okDs ah cs = true := okDs_all fun c hc => okD_cond (h.2.1 c hc)
    simp only [okD, okDs, e1, okD_keep h.2.2, Bool.and_self]
  · cases h
theorem okDs_rules {b : Nat} {rs : List D} {ah : AH} (h : rs.all (ruleB b) = true) : okDs ah rs = true := okDs_all fun r hr => okD_rule (List.all_eq_true.mp h r hr)
/-- a style of valid rules is not refused -/
theorem style_fine {b : Nat} {rs : List D} (h2 : 2 ≤ b) (hb : b ≤ 10) (h : rs.all (ruleB b) = true) (h1 : 1 ≤ rs.length) (h8 : rs.length ≤ 8) (hl : lastC rs = []) : styleErr (.int b) rs = none := by
  unfold styleErr
  have ha : among (.int b) 2 10 = true := by
    unfold among
    simp only [Bool.and_eq_true, decide_eq_true_eq]
    omega
  rw [ha, if_pos rfl, if_pos ⟨h1, h8⟩]
  have hf : (rs.findIdx? fun r => !ruleB b r) = none := List.findIdx?_eq_none_iff.mpr fun r hr => by
    rw [List.all_eq_true.mp h r hr]; rfl
  simp only [Int.toNat_natCast]
  rw [hf, hl]
  rfl
end Z
namespace Z
open PySem PySem.Spec PyProof.Rows L2
theorem isLst_of' {n : Nat} {ah : AH} {l : List D} (h : ah[n]? = some (.lst l)) : isLst (.ref n) ah := by unfold isLst; simp only [h]
/-! ### power -/
def sp_power : DSp := fun ds ah q _ => ∃ b m : Nat, ds = [.int b, .int m] ∧ b < 2 ^ 64 ∧ m < 2 ^ 62 ∧ q (.int ((b ^ m : Nat) : Int)) ah
def w_power : WS := (wSeq (wAsg (wC (.int 1)) (gN 2)) (wSeq (wFor (wRng1 (wCons (wVar 1) wNil)) (gN 3) (wAsg (wBin fMul (wVar 2) (wVar 0)) (gN 2))) (wRet (wVar 2))))
def sp__law_power : DSp := sp_power
def w__law_power : WS := (wSeq (wAsg (wC (.int 1)) (gN 2)) (wSeq (wFor (wRng1 (wCons (wVar 1) wNil)) (gN 3) (wAsg (wBin fMul (wVar 2) (wVar 0)) (gN 2))) (wRet (wVar 2))))
theorem rangeD_succ (n : Nat) : rangeD 0 (n + 1) = rangeD 0 n ++ [.int n] := by
  unfold rangeD
  rw [List.range_succ, List.map_append]
  simp

theorem pow_loop {g : Nat} : ∀ (m : Nat) (l : List D) (b a : Nat) (o : Option D) (ah : AH) (dn : DEnds) (x : QXS), l.length = m → b < 2 ^ 64 → (∀ o, dn.nx [some (.int b), some (.int g), some (.int ((a * b ^ m : Nat) : Int)), o] ah) →
    forGo (fun _ => True) (gN 3) (wAsg (wBin fMul (wVar 2) (wVar 0)) (gN 2)) dn x l [some (.int b), some (.int g), some (.int a), o] ah
  | 0, [], b, a, o, ah, dn, x, _, hb, h => ⟨trivial, by simpa using h o⟩
  | m + 1, d :: l, b, a, o, ah, dn, x, hl, hb, h => by
    refine ⟨trivial, mul_small ⟨by omega, by omega⟩, ?_⟩
    have := pow_loop (g := g) m l b (a * b) (some d) ah dn x (by simpa using hl) hb (fun o => by
      have := h o
      rw [Nat.pow_succ, Nat.mul_comm _ b, ← Nat.mul_assoc] at this
      exact this)
    rw [Int.natCast_mul] at this
    exact this
theorem wp_power (ds : List D) (ah : AH) (q : QE) (x : QX) (h : sp_power ds ah q x) : w_power (startD 4 ds) ah { nx := fun _ ah' => q .non ah', rt := q } (fun e _ ah' => x e ah') := by
  obtain ⟨b, m, rfl, hb, hm, hq⟩ := h
  show w_power [some (.int b), some (.int m), none, none] ah _ _
  refine ⟨by omega, by omega, ?_⟩
  exact pow_loop m _ b 1 none ah _ _ (by rw [rangeD_len]; simp) hb (fun o => by rw [Nat.one_mul]; exact hq)
theorem wp__law_power (ds : List D) (ah : AH) (q : QE) (x : QX) (h : sp__law_power ds ah q x) : w__law_power (startD 4 ds) ah { nx := fun _ ah' => q .non ah', rt := q } (fun e _ ah' => x e ah') := wp_power ds ah q x h
def sp_value_of : DSp := fun ds ah q _ => ∃ (b : Nat) (l : List Nat), ds = [.int b, .str (dg l)] ∧ 2 ≤ b ∧ b ≤ 10 ∧ (∀ d ∈ l, d < 10) ∧ q (.int (vl b l : Nat)) ah
def w_value_of : WS := (wSeq (wAsg (wC (.int 0)) (gN 2)) (wSeq (wFor (wIter (wVar 1)) (gN 3) (wAsg (wBin fAdd (wBin fMul (wVar 2) (wVar 0)) (wMet isStr fSIndex (wC (.str "0123456789")) (wCons (wVar 3) wNil))) (gN 2))) (wRet (wVar 2))))
theorem val_loop {b : Nat} {t : D} (hb : b ≤ 10) : ∀ (l : List Nat) (a : Nat) (o : Option D) (ah : AH) (dn : DEnds) (x : QXS), (∀ d ∈ l, d < 10) → (∀ o, dn.nx [some (.int b), some t, some (.int ((l.foldl (fun a d => a * b + d) a : Nat) : Int)), o] ah) →
    forGo (fun _ => True) (gN 3) (wAsg (wBin fAdd (wBin fMul (wVar 2) (wVar 0)) (wMet isStr fSIndex (wC (.str "0123456789")) (wCons (wVar 3) wNil))) (gN 2)) dn x (l.map fun d => D.str (dg [d])) [some (.int b), some t, some (.int a), o] ah
  | [], a, o, ah, dn, x, _, h => ⟨trivial, h o⟩
  | d :: l, a, o, ah, dn, x, h1, h => by
    have ih := val_loop (t := t) hb l (a * b + d) (some (.str (dg [d]))) ah dn x (fun y hy => h1 y (List.mem_cons_of_mem _ hy)) h
    rw [Int.natCast_add, Int.natCast_mul] at ih
    exact ⟨trivial, mul_small ⟨by omega, by omega⟩, trivial, d, [], index_figs (h1 d (by simp)), ih⟩
theorem wp_value_of (ds : List D) (ah : AH) (q : QE) (x : QX) (h : sp_value_of ds ah q x) : w_value_of (startD 4 ds) ah { nx := fun _ ah' => q .non ah', rt := q } (fun e _ ah' => x e ah') := by
  obtain ⟨b, l, rfl, h2, hb, hl, hq⟩ := h
  show w_value_of [some (.int b), some (.str (dg l)), none, none] ah _ _
  unfold w_value_of
  simp only [wSeq, wAsg, wC, gN, st, wFor, wIter, wVar, gt, fIter, signs_dg]
  exact val_loop hb l 0 none ah _ _ hl fun _ => hq
def sp__law_value : DSp := sp_value_of
def w__law_value : WS := (wSeq (wAsg (wC (.int 0)) (gN 2)) (wSeq (wFor (wIter (wVar 1)) (gN 3) (wAsg (wBin fAdd (wBin fMul (wVar 2) (wVar 0)) (wMet isStr fSIndex (wC (.str "0123456789")) (wCons (wVar 3) wNil))) (gN 2))) (wRet (wVar 2))))
theorem wp__law_value (ds : List D) (ah : AH) (q : QE) (x : QX) (h : sp__law_value ds ah q x) : w__law_value (startD 4 ds) ah { nx := fun _ ah' => q .non ah', rt := q } (fun e _ ah' => x e ah') := wp_value_of ds ah q x h
def sp__law_digits : DSp := fun ds ah q _ => ∃ b n : Nat, ds = [.int b, .int n] ∧ 2 ≤ b ∧ b ≤ 10 ∧ (Z.ds b n).length ≤ 10000 ∧ q (.str (dg (Z.ds b n))) ah
def w__law_digits : WS := (wSeq (wAsg (wC (.str "")) (gN 2)) (wSeq (wWhile (wTst (wBin fGt (wVar 1) (wC (.int 0)))) (wSeq (wAsg (wBin fAdd (wBin fAt (wC (.str "0123456789")) (wBin fMod (wCal gInt (wCons (wVar 1) wNil)) (wVar 0))) (wVar 2)) (gN 2)) (wAsg (wBin fDiv (wVar 1) (wVar 0)) (gN 1)))) (wRet (wVar 2))))
theorem wp__law_digits (ds : List D) (ah : AH) (q : QE) (x : QX) (h : sp__law_digits ds ah q x) : w__law_digits (startD 3 ds) ah { nx := fun _ ah' => q .non ah', rt := q } (fun e _ ah' => x e ah') := by
  obtain ⟨b, n, rfl, h2, hb, hn, hq⟩ := h
  show w__law_digits [some (.int b), some (.int n), none] ah _ _
  unfold w__law_digits
  simp only [wSeq, wAsg, wC, gN, st]
  refine ⟨fun m env ah' => ah' = ah ∧ ∃ f : List Nat, env = [some (.int b), some (.int m), some (.str (dg f))] ∧ Z.ds b m ++ f = Z.ds b n, ⟨n, rfl, [], by rw [show ("" : Str) = dg [] from by decide +kernel], by simp⟩, ?_⟩
  rintro m env ah' ⟨rfl, f, rfl, hf⟩
  simp only [wTst, wBin, wVar, wC, gt, fGt]
  by_cases hm : 0 < m
  · rw [decide_eq_true (by omega : (0 : Int) < m)]
    rw [ds_pos h2 hm, List.append_assoc] at hf
    have hlt : m % b < 10 := Nat.lt_of_lt_of_le (Nat.mod_lt _ (by omega)) hb
    have hlen := congrArg List.length hf
    simp only [List.length_append, List.length_singleton] at hlen
    refine ite_t ?_
    simp only [wSeq, wAsg, wBin, wVar, wC, gt, wCal, wCons, wNil, gInt, fMod, fAt, fIx, gN, st, fDiv]
    refine ⟨by omega, figs_len, ?_⟩
    rw [← Int.natCast_emod, at_figs hlt]
    simp only [fAdd]
    refine ⟨?_, div_small h2 hb, m / b, Nat.div_lt_self hm h2, trivial, [m % b] ++ f, ?_, hf⟩
    · show (dg [m % b]).length + (dg f).length ≤ sizeLine
      rw [dg_len, dg_len]
      exact size_line (by simp; omega)
    · rw [← dg_append]
      rfl
  · rw [decide_eq_false (by omega : ¬ (0 : Int) < m)]
    have : m = 0 := by omega
    subst this
    rw [ds_zero] at hf
    have e : f = Z.ds b n := by simpa using hf
    subst e
    exact hq
/-! ### figures_of -/
def sp_figures_of : DSp := fun ds ah q _ => ∃ b n : Nat, ds = [.int b, .int n] ∧ 2 ≤ b ∧ b ≤ 10 ∧ (Z.ds b n).length ≤ 100000 ∧ ∀ ah', Ext ah ah' → q (.str (dg (Z.ds b n))) ah'
def w_figures_of : WS := (wSeq (wAsg (wLst wNil) (gN 2)) (wSeq (wWhile (wTst (wBin fGt (wVar 1) (wC (.int 0)))) (wSeq (wAsg (wCal gDivmod (wCons (wVar 1) (wCons (wVar 0) wNil))) (gT 2 (gsC (gN 1) (gsC (gN 3) gsN)))) (wExpr (wMet isLst fAppend (wVar 2) (wCons (wBin fAt (wC (.str "0123456789")) (wVar 3)) wNil))))) (wRet (wMet isStr fJoin (wC (.str "")) (wCons (wRev (wVar 2)) wNil)))))
theorem app_empty (a : Str) : a ++ ("" : Str) = a := by
  apply str_ext
  show (a.cps ++ ("" : Str).cps).toList = _
  rw [show ("" : Str).cps = #[] from by decide +kernel, Array.append_empty]
theorem join_dg0 : ∀ l : List Nat, Str.join ("" : Str) (l.map fun d => dg [d]) = dg l
  | [] => rfl
  | [d] => rfl
  | d :: e :: l => by
    have ih := join_dg0 (e :: l)
    show dg [d] ++ ("" : Str) ++ Str.join ("" : Str) ((e :: l).map fun d => dg [d]) = _
    rw [ih, app_empty, dg_append]; rfl
theorem join_dg (l : List Nat) : Txt.join ("" : Str) (l.map fun d => dg [d]) = dg l := by
  unfold Txt.join
  rw [StrLaws.glued_eq_join, join_dg0]
theorem wp_figures_of (ds : List D) (ah : AH) (q : QE) (x : QX) (h : sp_figures_of ds ah q x) : w_figures_of (startD 4 ds) ah { nx := fun _ ah' => q .non ah', rt := q } (fun e _ ah' => x e ah') := by
  obtain ⟨b, n, rfl, h2, hb, hn, hq⟩ := h
  show w_figures_of [some (.int b), some (.int n), none, none] ah _ _
  unfold w_figures_of
  simp only [wSeq, wAsg, wLst, wNil, newL, gN, st]
  refine ⟨by decide, ?_⟩
  refine ⟨fun m env ah' => ∃ (f : List Nat) (o : Option D), env = [some (.int b), some (.int m), some (.ref ah.length), o] ∧ Z.ds b m ++ f.reverse = Z.ds b n ∧ ah'.length = ah.length + 1 ∧ Ext ah ah' ∧ ah'[ah.length]? = some (.lst (f.map fun d => .str (dg [d]))), ⟨n, [], none, rfl, by simp, by simp, Ext.push _, get_push _ _⟩, ?_⟩
  rintro m env ah' ⟨f, o, rfl, hf, hlen, he, hA⟩
  simp only [wTst, wBin, wVar, wC, gt, fGt]
  have hfl : f.length ≤ 100000 := by
    have := congrArg List.length hf
    simp at this
    omega
  by_cases hm : 0 < m
  · rw [decide_eq_true (by omega : (0 : Int) < m)]
    rw [ds_pos h2 hm, List.append_assoc] at hf
    have hlt : m % b < 10 := Nat.lt_of_lt_of_le (Nat.mod_lt _ (by omega)) hb
    refine ite_t ?_
    simp only [wSeq, wAsg, wLst, wCons, wNil, wCall, wBin, wVar, wC, gt, st, gN, newL, wExpr, wMet, wTst, wIf, wRet, wNext, wTup, wCal, wNot, wAnd, wOr, wAndV, wOrV, wNotV, wIfE, wPar, wPar3, gT, gsC, gsN, wFld, fFld, wCMeth, wSl, wPart, wNoPart, wFor, wIter, fIter, wLc, nos, no, wRng1, wRng2, wChain, wNeg, wStar, wPut, wSetF, wAug, wYes, wEnum, atE, gDivmod]
    refine ⟨⟨by omega, by omega⟩, rfl, isLst_of' hA, ?_⟩
    rw [← Int.natCast_emod, ← Int.natCast_ediv]
    simp only [fAt, fIx, at_figs hlt, fAppend, hA]
    refine ⟨figs_len, by rw [List.length_map]; exact Nat.lt_of_le_of_lt hfl (by decide), m / b, Nat.div_lt_self hm h2, f ++ [m % b], _, rfl, ?_, by simpa using hlen, ?_, ?_⟩
    · rw [List.reverse_append]; exact hf
    · intro k o e
      have : k < ah.length := (List.getElem?_eq_some_iff.mp e).1
      rw [List.getElem?_set_ne (by omega)]
      exact he k o e
    · rw [List.getElem?_set_self (by omega), List.map_append]; rfl
  · rw [decide_eq_false (by omega : ¬ (0 : Int) < m)]
    refine ite_f ?_
    have : m = 0 := by omega
    subst this
    rw [ds_zero, List.nil_append] at hf
    simp only [wSeq, wAsg, wLst, wCons, wNil, wCall, wBin, wVar, wC, gt, st, gN, newL, wExpr, wMet, wTst, wIf, wRet, wNext, wTup, wCal, wNot, wAnd, wOr, wAndV, wOrV, wNotV, wIfE, wPar, wPar3, gT, gsC, gsN, wFld, fFld, wCMeth, wSl, wPart, wNoPart, wFor, wIter, fIter, wLc, nos, no, wRng1, wRng2, wChain, wNeg, wStar, wPut, wSetF, wAug, wYes, wEnum, atE, wRev, hA, fJoin, get_push]
    refine ⟨trivial, f.reverse.map (fun d => dg [d]), by rw [List.map_map, ← List.map_reverse]; rfl, ?_, ?_⟩
    · have : ∀ l : List Nat, ((l.map fun d => dg [d]).map (·.length)).sum = l.length := fun l => by
        induction l with
        | nil => rfl
        | cons d l ih => simp only [List.map_cons, List.sum_cons, ih, dg_len, List.length_cons, List.length_nil]; omega
      rw [this]
      have e0 : ("" : Str).length = 0 := by decide +kernel
      simp [e0]; omega
    · rw [join_dg, hf]
      exact hq _ (he.trans (Ext.push _))
end Z
namespace Z
open PySem PySem.Spec PyProof.Rows L2
/-! ### a range, and what is told of it -/
structure Rg (b f s : Nat) : Prop where
  b2 : 2 ≤ b
  b10 : b ≤ 10
  f1 : 1 ≤ f
  lt : f < s
  len : (Z.ds b s).length ≤ 10000
theorem ds_lo {b n : Nat} (hb : 2 ≤ b) (hn : 0 < n) : b ^ ((Z.ds b n).length - 1) ≤ n := by
  have h0 : Z.ds b n ≠ [] := fun e => by have := ds_nil hb e; omega
  obtain ⟨d, t, e⟩ := head_dg h0
  have hd := ds_head hb d t e
  have hv := vl_ds hb n
  rw [e, vl_cons] at hv
  rw [e, List.length_cons, Nat.add_sub_cancel]
  have : 1 * b ^ t.length ≤ d * b ^ t.length := Nat.mul_le_mul_right _ (by omega)
  omega
theorem ds_mono {b m n : Nat} (hb : 2 ≤ b) (h : m ≤ n) : (Z.ds b m).length ≤ (Z.ds b n).length := ds_short hb _ _ (Nat.lt_of_le_of_lt h (ds_len hb))
theorem Rg.lenF {b f s : Nat} (r : Rg b f s) : (Z.ds b f).length ≤ 10000 := Nat.le_trans (ds_mono r.b2 (Nat.le_of_lt r.lt)) r.len
theorem Rg.ne {b f s : Nat} (r : Rg b f s) : Z.ds b f ≠ Z.ds b s := fun e => by
  have h1 := vl_ds r.b2 f
  have h2 := vl_ds r.b2 s
  rw [e, h2] at h1
  have := r.lt
  omega
/-- how many first signs are alike -/
def cpl : List Nat → List Nat → Nat
  | x :: l, y :: m => if x = y then cpl l m + 1 else 0
  | _, _ => 0
theorem cpl_lt : ∀ {l m : List Nat}, l.length = m.length → l ≠ m → cpl l m < l.length
  | [], [], _, h => (h rfl).elim
  | [], _ :: _, h, _ => by simp at h
  | _ :: _, [], h, _ => by simp at h
  | x :: l, y :: m, h, hne => by
    unfold cpl
    split
    · rename_i e
      subst e
      have := cpl_lt (l := l) (m := m) (by simpa using h) (fun e => hne (by rw [e]))
      simp only [List.length_cons]; omega
    · simp
theorem cpl_eq (x : Nat) (l m : List Nat) : cpl (x :: l) (x :: m) = cpl l m + 1 := by rw [cpl, if_pos rfl]
theorem cpl_ne {x y : Nat} (h : x ≠ y) (l m : List Nat) : cpl (x :: l) (y :: m) = 0 := by rw [cpl, if_neg h]
theorem cpl_drop : ∀ {l m : List Nat} {k : Nat}, k ≤ cpl l m → cpl (l.drop k) (m.drop k) = cpl l m - k
  | l, m, 0, _ => by simp
  | [], m, k + 1, h => by simp [cpl] at h
  | _ :: _, [], k + 1, h => by simp [cpl] at h
  | x :: l, y :: m, k + 1, h => by
    by_cases e : x = y
    · subst e
      rw [cpl_eq] at h ⊢
      rw [List.drop_succ_cons, List.drop_succ_cons, cpl_drop (l := l) (m := m) (k := k) (by omega)]
      omega
    · rw [cpl_ne e] at h; omega
theorem cpl_at {l m : List Nat} {k : Nat} (hk : k < l.length) (hk2 : k < m.length) (h : k ≤ cpl l m) : (l[k] = m[k]) ↔ k < cpl l m := by
  have e := cpl_drop h
  rw [List.drop_eq_getElem_cons hk, List.drop_eq_getElem_cons hk2] at e
  by_cases q : l[k] = m[k]
  · rw [q, cpl_eq] at e
    exact ⟨fun _ => by omega, fun _ => q⟩
  · rw [cpl_ne q] at e
    exact ⟨fun z => absurd z q, fun z => by omega⟩
def chg (b f s : Nat) : Nat := if (Z.ds b f).length = (Z.ds b s).length then (Z.ds b f).length - cpl (Z.ds b f) (Z.ds b s) else (Z.ds b s).length
theorem chg_bounds {b f s : Nat} (r : Rg b f s) : 1 ≤ chg b f s ∧ chg b f s ≤ (Z.ds b s).length := by
  unfold chg
  split
  · rename_i e
    have := cpl_lt e r.ne
    omega
  · have : Z.ds b s ≠ [] := fun e => by have := ds_nil r.b2 e; have := r.lt; omega
    have := List.length_pos_iff.mpr this
    omega
/-! ### changed_in -/
def sp_changed_in : DSp := fun ds ah q _ => ∃ b f s : Nat, ds = [.int b, .int f, .int s] ∧ Rg b f s ∧ ∀ ah', Ext ah ah' → q (.int (chg b f s : Nat)) ah'
def w_changed_in : WS := (wSeq (wPar 3 4 (wCons (wCall sp_figures_of [] (wCons (wVar 0) (wCons (wVar 1) wNil))) (wCons (wCall sp_figures_of [] (wCons (wVar 0) (wCons (wVar 2) wNil))) wNil))) (wSeq (wIf (wTst (wBin (fEq true) (wCal gLen (wCons (wVar 3) wNil)) (wCal gLen (wCons (wVar 4) wNil)))) (wRet (wCal gLen (wCons (wVar 4) wNil))) wNext) (wSeq (wAsg (wC (.int 0)) (gN 5)) (wSeq (wWhile (wTst (wBin (fEq false) (wBin fAt (wVar 3) (wVar 5)) (wBin fAt (wVar 4) (wVar 5)))) (wAug 5 fIAdd (wC (.int 1)))) (wRet (wBin fSub (wCal gLen (wCons (wVar 3) wNil)) (wVar 5)))))))
theorem dg_size {l : List Nat} (h : l.length ≤ 100000) : (dg l).length ≤ sizeLine := size_line (by rw [dg_len]; omega)
theorem dl_size {l : List Nat} (h : l.length ≤ 100000) : l.length ≤ sizeLine := size_line (by omega)
theorem sign_inj {x y : Nat} : ((⟨#[x]⟩ : Str) = ⟨#[y]⟩) ↔ x = y := by simp
theorem wp_changed_in (ds : List D) (ah : AH) (q : QE) (x : QX) (h : sp_changed_in ds ah q x) : w_changed_in (startD 6 ds) ah { nx := fun _ ah' => q .non ah', rt := q } (fun e _ ah' => x e ah') := by
  obtain ⟨b, f, s, rfl, r, hq⟩ := h
  have hf := r.lenF
  have hs := r.len
  refine ⟨b, f, rfl, r.b2, r.b10, by omega, fun ah1 x1 => ⟨b, s, rfl, r.b2, r.b10, by omega, fun ah2 x2 => ?_⟩⟩
  have x12 := x1.trans x2
  simp only [wSeq, wAsg, wLst, wCons, wNil, wCall, wBin, wVar, wC, gt, st, gN, newL, wExpr, wMet, wTst, wIf, wRet, wNext, wTup, wCal, wNot, wAnd, wOr, wAndV, wOrV, wNotV, wIfE, wPar, wPar3, gT, gsC, gsN, wFld, fFld, wCMeth, wSl, wPart, wNoPart, wFor, wIter, fIter, wLc, nos, no, wRng1, wRng2, wChain, wNeg, wStar, wPut, wSetF, wAug, wYes, wEnum, atE, gLen]
  refine ⟨dg_size (by omega), dg_size (by omega), ?_⟩
  simp only [fEq, dg_len]
  by_cases e : (Z.ds b f).length = (Z.ds b s).length
  · rw [decide_eq_true (by omega)]
    refine ite_f ?_
    have hlt := cpl_lt e r.ne
    refine ⟨fun m env ah' => ah' = ah2 ∧ ∃ k : Nat, env = [some (.int b), some (.int f), some (.int s), some (.str (dg (Z.ds b f))), some (.str (dg (Z.ds b s))), some (.int k)] ∧ k ≤ cpl (Z.ds b f) (Z.ds b s) ∧ m = cpl (Z.ds b f) (Z.ds b s) - k, ⟨_, rfl, 0, rfl, by omega, rfl⟩, ?_⟩
    rintro m env ah' ⟨rfl, k, rfl, hk, hm⟩
    have k1 : k < (Z.ds b f).length := by omega
    have k2 : k < (Z.ds b s).length := by omega
    simp only [wSeq, wAsg, wLst, wCons, wNil, wCall, wBin, wVar, wC, gt, st, gN, newL, wExpr, wMet, wTst, wIf, wRet, wNext, wTup, wCal, wNot, wAnd, wOr, wAndV, wOrV, wNotV, wIfE, wPar, wPar3, gT, gsC, gsN, wFld, fFld, wCMeth, wSl, wPart, wNoPart, wFor, wIter, fIter, wLc, nos, no, wRng1, wRng2, wChain, wNeg, wStar, wPut, wSetF, wAug, wYes, wEnum, atE, fAt, fIx, atI_nat, dg_cps, List.getElem?_map, List.getElem?_eq_getElem k1, List.getElem?_eq_getElem k2, Option.map_some]
    refine ⟨dg_size (by omega), dg_size (by omega), ?_⟩
    simp only [fEq, sign_inj]
    have hat := cpl_at k1 k2 hk
    by_cases hc : k < cpl (Z.ds b f) (Z.ds b s)
    · rw [decide_eq_true (by have := hat.mpr hc; omega)]
      refine ite_t ?_
      refine ⟨m - 1, by omega, rfl, k + 1, ?_, by omega, by omega⟩
      simp [st]
    · rw [decide_eq_false (by intro z; exact hc (hat.mp (by omega)))]
      refine ite_f ?_
      refine ⟨dg_size (by omega), ?_⟩
      have : k = cpl (Z.ds b f) (Z.ds b s) := by omega
      have hq' := hq _ x12
      unfold chg at hq'
      rw [if_pos e, Int.natCast_sub (by omega), ← this] at hq'
      simp only [fSub, dg_len]
      exact hq'
  · rw [decide_eq_false (by omega)]
    refine ite_t ?_
    refine ⟨dg_size (by omega), ?_⟩
    have hq' := hq _ x12
    unfold chg at hq'
    rw [if_neg e] at hq'
    rw [dg_len]
    exact hq'
def sp__law_changed : DSp := fun ds ah q _ => ∃ b f s : Nat, ds = [.int b, .int f, .int s] ∧ Rg b f s ∧ q (.int (chg b f s : Nat)) ah
def w__law_changed : WS := (wSeq (wPar 3 4 (wCons (wCall sp__law_digits [] (wCons (wVar 0) (wCons (wVar 1) wNil))) (wCons (wCall sp__law_digits [] (wCons (wVar 0) (wCons (wVar 2) wNil))) wNil))) (wSeq (wWhile ((wAnd (wTst (wBin (fEq false) (wCal gLen (wCons (wVar 3) wNil)) (wCal gLen (wCons (wVar 4) wNil)))) (wTst (wBin (fEq false) (wSl (wVar 3) wNoPart (wPart (wC (.int 1)))) (wSl (wVar 4) wNoPart (wPart (wC (.int 1)))))))) (wPar 3 4 (wCons (wSl (wVar 3) (wPart (wC (.int 1))) wNoPart) (wCons (wSl (wVar 4) (wPart (wC (.int 1))) wNoPart) wNil)))) (wRet (wCal gLen (wCons (wVar 4) wNil)))))
theorem cut_one (l : List Nat) : cutS (dg l) none (some 1) = dg (l.take 1) := cut_take l 1
theorem cut_rest (l : List Nat) : cutS (dg l) (some 1) none = dg (l.drop 1) := cut_drop l 1
theorem wp__law_changed (ds : List D) (ah : AH) (q : QE) (x : QX) (h : sp__law_changed ds ah q x) : w__law_changed (startD 5 ds) ah { nx := fun _ ah' => q .non ah', rt := q } (fun e _ ah' => x e ah') := by
  obtain ⟨b, f, s, rfl, r, hq⟩ := h
  have hf := r.lenF
  have hs := r.len
  refine ⟨b, f, rfl, r.b2, r.b10, hf, b, s, rfl, r.b2, r.b10, hs, ?_⟩
  simp only [wSeq, wAsg, wLst, wCons, wNil, wCall, wBin, wVar, wC, gt, st, gN, newL, wExpr, wMet, wTst, wIf, wRet, wNext, wTup, wCal, wNot, wAnd, wOr, wAndV, wOrV, wNotV, wIfE, wPar, wPar3, gT, gsC, gsN, wFld, fFld, wCMeth, wSl, wPart, wNoPart, wFor, wIter, fIter, wLc, nos, no, wRng1, wRng2, wChain, wNeg, wStar, wPut, wSetF, wAug, wYes, wEnum, atE, gLen]
  refine ⟨fun m env ah' => ah' = ah ∧ ∃ k : Nat, env = [some (.int b), some (.int f), some (.int s), some (.str (dg ((Z.ds b f).drop k))), some (.str (dg ((Z.ds b s).drop k)))] ∧ (k = 0 ∨ (Z.ds b f).length = (Z.ds b s).length ∧ k ≤ cpl (Z.ds b f) (Z.ds b s)) ∧ m = (Z.ds b f).length - k, ⟨_, rfl, 0, rfl, .inl rfl, rfl⟩, ?_⟩
  rintro m env ah' ⟨rfl, k, rfl, hk, hm⟩
  have l1 : ((Z.ds b f).drop k).length ≤ 100000 := by simp; omega
  have l2 : ((Z.ds b s).drop k).length ≤ 100000 := by simp; omega
  simp only [wSeq, wAsg, wLst, wCons, wNil, wCall, wBin, wVar, wC, gt, st, gN, newL, wExpr, wMet, wTst, wIf, wRet, wNext, wTup, wCal, wNot, wAnd, wOr, wAndV, wOrV, wNotV, wIfE, wPar, wPar3, gT, gsC, gsN, wFld, fFld, wCMeth, wSl, wPart, wNoPart, wFor, wIter, fIter, wLc, nos, no, wRng1, wRng2, wChain, wNeg, wStar, wPut, wSetF, wAug, wYes, wEnum, atE, gLen]
  refine ⟨dg_size l1, dg_size l2, ?_⟩
  simp only [fEq, dg_len]
  by_cases e : (Z.ds b f).length = (Z.ds b s).length
  · have hlt := cpl_lt e r.ne
    have hk' : k ≤ cpl (Z.ds b f) (Z.ds b s) := by omega
    have k1 : k < (Z.ds b f).length := by omega
    have k2 : k < (Z.ds b s).length := by omega
    rw [decide_eq_true (by simp; omega)]
    refine ite_t ?_
    simp only [fSl, cut_one, cut_rest]
    refine ⟨dg_size l1, dg_size l2, ?_⟩
    have e1 : ((Z.ds b f).drop k).take 1 = [(Z.ds b f)[k]] := by rw [List.drop_eq_getElem_cons k1]; rfl
    have e2 : ((Z.ds b s).drop k).take 1 = [(Z.ds b s)[k]] := by rw [List.drop_eq_getElem_cons k2]; rfl
    rw [e1, e2]
    have hat := cpl_at k1 k2 hk'
    by_cases hc : k < cpl (Z.ds b f) (Z.ds b s)
    · rw [decide_eq_true (by rw [hat.mpr hc])]
      refine ite_t ?_
      refine ⟨dg_size l1, dg_size l2, m - 1, by omega, trivial, k + 1, ?_, .inr ⟨e, by omega⟩, by omega⟩
      rw [List.drop_drop, List.drop_drop]
    · rw [decide_eq_false (by intro z; have := dg_inj z; exact hc (hat.mp (by simpa using this)))]
      refine ite_f ?_
      refine ⟨dl_size l2, ?_⟩
      have hq' := hq
      unfold chg at hq'
      rw [if_pos e] at hq'
      rw [List.length_drop, ← e]
      have : k = cpl (Z.ds b f) (Z.ds b s) := by omega
      rw [this]
      exact hq'
  · have k0 : k = 0 := by omega
    subst k0
    rw [decide_eq_false (by simp; omega)]
    refine ite_f (ite_f ?_)
    refine ⟨dl_size l2, ?_⟩
    have hq' := hq
    unfold chg at hq'
    rw [if_neg e] at hq'
    rw [List.drop_zero]
    exact hq'
/-! ### near -/
def nrF (b d : Nat) : Nat → Nat → Nat
  | 0, e => e
  | k + 1, e => if d ≤ b ^ e then e else nrF b d k (e + 1)
def nr (b d : Nat) : Nat := nrF b d d 0
theorem nrF_spec {b d : Nat} : ∀ (k e : Nat), d ≤ b ^ (e + k) → (∀ i < e, b ^ i < d) → d ≤ b ^ nrF b d k e ∧ ∀ i < nrF b d k e, b ^ i < d
  | 0, e, h1, h2 => ⟨h1, h2⟩
  | k + 1, e, h1, h2 => by
    unfold nrF
    split
    · rename_i h; exact ⟨h, h2⟩
    · rename_i h
      exact nrF_spec k (e + 1) (by rw [show e + 1 + k = e + (k + 1) by omega]; exact h1) fun i hi => by
        rcases Nat.lt_or_ge i e with z | z
        · exact h2 i z
        · have : i = e := by omega
          subst this; omega
theorem nr_spec {b d : Nat} (hb : 2 ≤ b) : d ≤ b ^ nr b d ∧ ∀ i < nr b d, b ^ i < d :=
  nrF_spec d 0 (by rw [Nat.zero_add]; exact Nat.le_of_lt (Nat.lt_of_lt_of_le Nat.lt_two_pow_self (Nat.pow_le_pow_left hb d))) (by omega)
theorem nr_uniq {b d e : Nat} (hb : 2 ≤ b) (h1 : d ≤ b ^ e) (h2 : ∀ i < e, b ^ i < d) : e = nr b d := by
  obtain ⟨g1, g2⟩ := nr_spec (d := d) hb
  rcases Nat.lt_trichotomy e (nr b d) with z | z | z
  · have := g2 e z; omega
  · exact z
  · have := h2 _ z; omega
theorem nr_le {b d e : Nat} (hb : 2 ≤ b) : nr b d ≤ e ↔ d ≤ b ^ e := by
  obtain ⟨g1, g2⟩ := nr_spec (d := d) hb
  constructor
  · intro h; exact Nat.le_trans g1 (Nat.pow_le_pow_right (by omega) h)
  · intro h
    rcases Nat.lt_or_ge e (nr b d) with z | z
    · have := g2 e z; omega
    · exact z
def sp_near_in : DSp := fun ds ah q _ => ∃ b f s : Nat, ds = [.int b, .int f, .int s] ∧ 2 ≤ b ∧ b ≤ 10 ∧ f < s ∧ q (.int (nr b (s - f) : Nat)) ah
def w_near_in : WS := (wSeq (wAsg (wTup (wCons (wC (.int 0)) (wCons (wC (.int 1)) wNil))) (gT 2 (gsC (gN 3) (gsC (gN 4) gsN)))) (wSeq (wWhile (wTst (wBin fGt (wBin fSub (wVar 2) (wVar 1)) (wVar 4))) (wPar 3 4 (wCons (wBin fAdd (wVar 3) (wC (.int 1))) (wCons (wBin fMul (wVar 4) (wVar 0)) wNil)))) (wRet (wVar 3))))
theorem wp_near_in (ds : List D) (ah : AH) (q : QE) (x : QX) (h : sp_near_in ds ah q x) : w_near_in (startD 5 ds) ah { nx := fun _ ah' => q .non ah', rt := q } (fun e _ ah' => x e ah') := by
  obtain ⟨b, f, s, rfl, h2, hb, hlt, hq⟩ := h
  refine ⟨by decide, rfl, ?_⟩
  simp only [wSeq, wAsg, wLst, wCons, wNil, wCall, wBin, wVar, wC, gt, st, gN, newL, wExpr, wMet, wTst, wIf, wRet, wNext, wTup, wCal, wNot, wAnd, wOr, wAndV, wOrV, wNotV, wIfE, wPar, wPar3, gT, gsC, gsN, wFld, fFld, wCMeth, wSl, wPart, wNoPart, wFor, wIter, fIter, wLc, nos, no, wRng1, wRng2, wChain, wNeg, wStar, wPut, wSetF, wAug, wYes, wEnum, atE]
  refine ⟨fun m env ah' => ah' = ah ∧ ∃ k : Nat, env = [some (.int b), some (.int f), some (.int s), some (.int k), some (.int ((b ^ k : Nat) : Int))] ∧ k ≤ nr b (s - f) ∧ m = nr b (s - f) - k, ⟨_, rfl, 0, by simp [startD, st], by omega, rfl⟩, ?_⟩
  rintro m env ah' ⟨rfl, k, rfl, hk, hm⟩
  obtain ⟨g1, g2⟩ := nr_spec (d := s - f) h2
  simp only [wSeq, wAsg, wLst, wCons, wNil, wCall, wBin, wVar, wC, gt, st, gN, newL, wExpr, wMet, wTst, wIf, wRet, wNext, wTup, wCal, wNot, wAnd, wOr, wAndV, wOrV, wNotV, wIfE, wPar, wPar3, gT, gsC, gsN, wFld, fFld, wCMeth, wSl, wPart, wNoPart, wFor, wIter, fIter, wLc, nos, no, wRng1, wRng2, wChain, wNeg, wStar, wPut, wSetF, wAug, wYes, wEnum, atE, fSub, fGt]
  by_cases c : k < nr b (s - f)
  · have := g2 k c
    rw [decide_eq_true (by omega : ((b ^ k : Nat) : Int) < (s : Int) - f)]
    refine ite_t ?_
    simp only [fAdd, fMul]
    refine ⟨mul_small ⟨by omega, by omega⟩, m - 1, by omega, trivial, k + 1, ?_, by omega, by omega⟩
    simp [st, Nat.pow_succ, Int.natCast_mul]
  · have : k = nr b (s - f) := by omega
    rw [← this] at g1
    rw [decide_eq_false (by omega : ¬ ((b ^ k : Nat) : Int) < (s : Int) - f)]
    refine ite_f ?_
    rw [← this] at hq
    exact hq
end Z
namespace Z
open PySem PySem.Spec PyProof.Rows L2
/-! ### holds -/
def isNonE (d : D) : Bool := match d with
  | .non => true
  | _ => false
def leD (n : Nat) (d : D) : Bool := match d with
  | .int i => decide ((n : Int) ≤ i)
  | _ => false
def geD (n : Nat) (d : D) : Bool := match d with
  | .int i => decide (i ≤ (n : Int))
  | _ => false
def holdsB (b f s : Nat) (c : D) : Bool := match c with
  | .tup [.str k, x] => if k = "ends" then (match x with
      | .str z => Txt.endswith (dg (Z.ds b f)) z
      | _ => false) else leD (nr b (s - f)) x
  | .tup [.str k, lo, hi] => let n := if k = "length" then (Z.ds b f).length else chg b f s
      geD n lo && (isNonE hi || leD n hi)
  | _ => false
/-- what a condition looks like, by its word -/
theorem cond_shape {b : Nat} {c : D} (h : condB b c = true) : (∃ z : Str, c = .tup [.str "ends", .str z] ∧ areB b (.str z) = true ∧ z.length ≤ 2) ∨ (∃ i : Nat, c = .tup [.str "near", .int i] ∧ i ≤ 6) ∨
    ∃ (k : Str) (lo : Nat) (hi : D), c = .tup [.str k, .int lo, hi] ∧ (k = "length" ∨ k = "changed") ∧ 1 ≤ lo ∧ lo ≤ 6 ∧ (hi = .non ∨ ∃ j : Nat, hi = .int j ∧ lo ≤ j ∧ j ≤ 6) := by
  have nat_ : ∀ {d : D} {lo hi : Int}, 0 ≤ lo → among d lo hi = true → ∃ n : Nat, d = .int n ∧ lo ≤ n ∧ n ≤ hi := fun {d lo hi} h0 h => by
    unfold among at h
    split at h
    · rename_i i
      simp only [Bool.and_eq_true, decide_eq_true_eq] at h
      exact ⟨i.toNat, by rw [Int.toNat_of_nonneg (by omega)], by omega, by omega⟩
    · cases h
  unfold condB at h
  split at h
  · rename_i k x
    split at h
    · rename_i hk
      subst hk
      rw [Bool.and_eq_true] at h
      obtain ⟨z, rfl⟩ := areB_str h.1
      exact .inl ⟨z, rfl, h.1, by have := h.2; unfold le2 at this; exact of_decide_eq_true this⟩
    · split at h
      · rename_i hk
        subst hk
        obtain ⟨n, rfl, h1, h2⟩ := nat_ (by decide) h
        exact .inr (.inl ⟨n, rfl, by omega⟩)
      · cases h
  · rename_i k x y
    simp only [Bool.and_eq_true, Bool.or_eq_true, decide_eq_true_eq] at h
    obtain ⟨hk, hx, hy⟩ := h
    obtain ⟨n, rfl, h1, h2⟩ := nat_ (by decide) hx
    refine .inr (.inr ⟨k, n, y, rfl, hk, by omega, by omega, ?_⟩)
    rcases hy with hy | hy
    · left
      unfold isNon at hy
      split at hy
      · rfl
      · cases hy
    · obtain ⟨j, rfl, h3, h4⟩ := nat_ (show (0 : Int) ≤ n by omega) (show among y n 6 = true from hy)
      exact .inr ⟨j, rfl, by omega, by omega⟩
  · cases h
theorem kne2 : ("length" : Str) ≠ "ends" ∧ ("changed" : Str) ≠ "ends" ∧ ("length" : Str) ≠ "near" ∧ ("changed" : Str) ≠ "near" ∧ ("changed" : Str) ≠ "length" ∧ ("near" : Str) ≠ "ends" := by decide +kernel
/-- the end of both readings: least <= size and (most is None or size <= most) -/
theorem size_end {lo : Nat} {hi : D} {n : Nat} {ah : AH} {q : QE} (hh : hi = .non ∨ ∃ j : Nat, hi = .int j ∧ lo ≤ j ∧ j ≤ 6) (hq : q (.bl (geD n (.int lo) && (isNonE hi || leD n hi))) ah) :
    (if decide ((lo : Int) ≤ n) = true then fIs false hi .non ah (fun d ah1 => match d with | .bl false => fLe (.int n) hi ah1 q | .bl true => q (.bl true) ah1 | _ => False) else q (.bl false) ah) := by
  have e : geD n (.int lo) = decide ((lo : Int) ≤ n) := rfl
  rw [e] at hq
  by_cases h : (lo : Int) ≤ n
  · rw [decide_eq_true h] at hq ⊢
    rw [if_pos rfl]
    rw [Bool.true_and] at hq
    rcases hh with rfl | ⟨j, rfl, _⟩
    · exact hq
    · exact hq
  · rw [decide_eq_false h] at hq ⊢
    rw [if_neg (by decide)]
    exact hq
def sp_holds : DSp := fun ds ah q _ => ∃ (b f s : Nat) (c : D), ds = [.int b, c, .int f, .int s] ∧ Rg b f s ∧ condB b c = true ∧ ∀ ah', Ext ah ah' → q (.bl (holdsB b f s c)) ah'
def w_holds : WS := (wSeq (wIf (wTst (wBin (fEq false) (wBin fAt (wVar 1) (wC (.int 0))) (wC (.str "ends")))) (wRet (wMet isStr fEnds (wCall sp_figures_of [] (wCons (wVar 0) (wCons (wVar 2) wNil))) (wCons (wBin fAt (wVar 1) (wC (.int 1))) wNil))) wNext) (wSeq (wIf (wTst (wBin (fEq false) (wBin fAt (wVar 1) (wC (.int 0))) (wC (.str "near")))) (wRet (wBin fLe (wCall sp_near_in [] (wCons (wVar 0) (wCons (wVar 2) (wCons (wVar 3) wNil)))) (wBin fAt (wVar 1) (wC (.int 1))))) wNext) (wSeq (wAsg (wIfE (wTst (wBin (fEq false) (wBin fAt (wVar 1) (wC (.int 0))) (wC (.str "length")))) (wCall sp_length_of [] (wCons (wVar 0) (wCons (wVar 2) wNil))) (wCall sp_changed_in [] (wCons (wVar 0) (wCons (wVar 2) (wCons (wVar 3) wNil))))) (gN 4)) (wRet ((wAndV (wBin fLe (wBin fAt (wVar 1) (wC (.int 1))) (wVar 4)) ((wOrV (wBin (fIs false) (wBin fAt (wVar 1) (wC (.int 2))) (wC .non)) (wBin fLe (wVar 4) (wBin fAt (wVar 1) (wC (.int 2))))))))))))
theorem wp_holds (ds : List D) (ah : AH) (q : QE) (x : QX) (h : sp_holds ds ah q x) : w_holds (startD 5 ds) ah { nx := fun _ ah' => q .non ah', rt := q } (fun e _ ah' => x e ah') := by
  obtain ⟨b, f, s, c, rfl, r, hc, hq⟩ := h
  show w_holds [some (.int b), some c, some (.int f), some (.int s), none] ah _ _
  unfold w_holds
  rcases cond_shape hc with ⟨z, rfl, hz, hl⟩ | ⟨i, rfl, hi⟩ | ⟨k, lo, hi, rfl, hk, l1, l6, hh⟩
  · simp only [wSeq, wAsg, wLst, wCons, wNil, wCall, wBin, wVar, wC, gt, st, gN, newL, wExpr, wMet, wTst, wIf, wRet, wNext, wTup, wCal, wNot, wAnd, wOr, wAndV, wOrV, wNotV, wIfE, wPar, wPar3, gT, gsC, gsN, wFld, fFld, wCMeth, wSl, wPart, wNoPart, wFor, wIter, fIter, wLc, nos, no, wRng1, wRng2, wChain, wNeg, wStar, wPut, wSetF, wAug, wYes, wEnum, atE, fAt, fIx, at0, at1, fEq, decide_true]
    refine ite_t ⟨b, f, rfl, r.b2, r.b10, by have := r.lenF; omega, fun ah1 x1 => ⟨trivial, ?_⟩⟩
    have := hq _ x1
    unfold holdsB at this
    simp only [if_pos] at this
    exact this
  · simp only [wSeq, wAsg, wLst, wCons, wNil, wCall, wBin, wVar, wC, gt, st, gN, newL, wExpr, wMet, wTst, wIf, wRet, wNext, wTup, wCal, wNot, wAnd, wOr, wAndV, wOrV, wNotV, wIfE, wPar, wPar3, gT, gsC, gsN, wFld, fFld, wCMeth, wSl, wPart, wNoPart, wFor, wIter, fIter, wLc, nos, no, wRng1, wRng2, wChain, wNeg, wStar, wPut, wSetF, wAug, wYes, wEnum, atE, fAt, fIx, at0, at1, fEq, decide_eq_false kne2.2.2.2.2.2, decide_true]
    refine ite_f (ite_t ⟨b, f, s, rfl, r.b2, r.b10, r.lt, ?_⟩)
    have := hq _ Ext.refl
    unfold holdsB at this
    simp only [if_neg kne2.2.2.2.2.2] at this
    exact this
  · have k1 : k ≠ "ends" := hk.elim (fun e => e ▸ kne2.1) (fun e => e ▸ kne2.2.1)
    have k2 : k ≠ "near" := hk.elim (fun e => e ▸ kne2.2.2.1) (fun e => e ▸ kne2.2.2.2.1)
    simp only [wSeq, wAsg, wLst, wCons, wNil, wCall, wBin, wVar, wC, gt, st, gN, newL, wExpr, wMet, wTst, wIf, wRet, wNext, wTup, wCal, wNot, wAnd, wOr, wAndV, wOrV, wNotV, wIfE, wPar, wPar3, gT, gsC, gsN, wFld, fFld, wCMeth, wSl, wPart, wNoPart, wFor, wIter, fIter, wLc, nos, no, wRng1, wRng2, wChain, wNeg, wStar, wPut, wSetF, wAug, wYes, wEnum, atE, fAt, fIx, at0, at1, at2, fEq, decide_eq_false k1, decide_eq_false k2]
    refine ite_f (ite_f ?_)
    have hq' : ∀ ah', Ext ah ah' → q (.bl (geD (if k = "length" then (Z.ds b f).length else chg b f s) (.int lo) && (isNonE hi || leD (if k = "length" then (Z.ds b f).length else chg b f s) hi))) ah' := hq
    have fin : ∀ (n : Nat) (ah' : AH), q (.bl (geD n (.int lo) && (isNonE hi || leD n hi))) ah' → fLe (.int lo) (.int n) ah' fun d ah1 => match d with
        | .bl true => fIs false hi .non ah1 fun d ah1 => match d with
          | .bl false => fLe (.int n) hi ah1 q
          | .bl true => q (.bl true) ah1
          | _ => False
        | .bl false => q (.bl false) ah1
        | _ => False := fun n ah' h => by
      have := size_end hh h
      simp only [fLe]
      cases hd : decide ((lo : Int) ≤ n) with
      | true => rw [hd, if_pos rfl] at this; exact this
      | false => rw [hd, if_neg (by decide)] at this; exact this
    by_cases hkl : k = "length"
    · rw [decide_eq_true hkl]
      refine ite_t ⟨b, f, rfl, r.b2, r.b10, ?_⟩
      refine fin _ _ ?_
      have := hq' _ Ext.refl
      rw [if_pos hkl] at this
      exact this
    · rw [decide_eq_false hkl]
      refine ite_f ⟨b, f, s, rfl, r, fun ah1 x1 => ?_⟩
      refine fin _ _ ?_
      have := hq' _ x1
      rw [if_neg hkl] at this
      exact this
/-! ### the law's own reading of a condition -/
theorem ends_cut {x y : Str} (h0 : 0 < y.length) : decide (cutS x (some (-(y.length : Int))) none = y) = Txt.endswith x y := by
  have e1 : cutS x (some (-(y.length : Int))) none = ⟨(x.cps.toList.drop (x.length - y.length)).toArray⟩ := by
    apply str_ext
    unfold cutS
    have hs : HT.sIx x.length 0 (some (-(y.length : Int))) = x.length - y.length := by
      show (if (-(y.length : Int)) < 0 then (-(y.length : Int) + (x.length : Int)).toNat else _) = _
      rw [if_pos (by omega)]
      omega
    rw [HT.sIx_none, hs]
    have hl : x.cps.toList.length = x.length := by simp [Str.length]
    simp only [List.take_of_length_le (show (List.drop (x.length - y.length) x.cps.toList).length ≤ x.length - (x.length - y.length) by rw [List.length_drop, hl]; omega)]
  rw [e1, Bool.eq_iff_iff]
  unfold Txt.endswith
  rw [Bool.and_eq_true, decide_eq_true_eq, decide_eq_true_eq, StrLaws.subAt_eq, beq_iff_eq]
  have hl : x.cps.toList.length = x.length := by simp [Str.length]
  have hy : y.cps.toList.length = y.length := by simp [Str.length]
  constructor
  · intro e
    have e2 : x.cps.toList.drop (x.length - y.length) = y.cps.toList := by
      have := congrArg (fun s : Str => s.cps.toList) e
      simpa using this
    have := congrArg List.length e2
    rw [List.length_drop, hl, hy] at this
    refine ⟨by omega, ?_⟩
    rw [e2, List.take_of_length_le (by omega)]
  · rintro ⟨h1, h2⟩
    apply str_ext
    rw [List.take_of_length_le (by rw [List.length_drop, hl]; omega)] at h2
    simpa using h2
theorem areB_len {b : Nat} {z : Str} (h : areB b (.str z) = true) : 0 < z.length := by
  unfold areB at h
  rw [Bool.and_eq_true, decide_eq_true_eq] at h
  rcases Nat.eq_zero_or_pos z.length with e | e
  · exact (h.1 (str_ext (by
      have : z.cps.toList = [] := List.eq_nil_of_length_eq_zero (by simpa [Str.length] using e)
      rw [this]; decide +kernel))).elim
  · exact e
def sp__law_holds : DSp := fun ds ah q _ => ∃ (b f s : Nat) (c : D), ds = [.int b, c, .int f, .int s] ∧ Rg b f s ∧ condB b c = true ∧ q (.bl (holdsB b f s c)) ah
def w__law_holds : WS := (wSeq (wAsg (wCall sp__law_digits [] (wCons (wVar 0) (wCons (wVar 2) wNil))) (gN 4)) (wSeq (wIf (wTst (wBin (fEq false) (wBin fAt (wVar 1) (wC (.int 0))) (wC (.str "ends")))) (wRet (wBin (fEq false) (wSl (wVar 4) (wPart (wNeg (wCal gLen (wCons (wBin fAt (wVar 1) (wC (.int 1))) wNil)))) wNoPart) (wBin fAt (wVar 1) (wC (.int 1))))) wNext) (wSeq (wIf (wTst (wBin (fEq false) (wBin fAt (wVar 1) (wC (.int 0))) (wC (.str "near")))) (wRet (wBin fLe (wBin fSub (wVar 3) (wVar 2)) (wCall sp__law_power [] (wCons (wVar 0) (wCons (wBin fAt (wVar 1) (wC (.int 1))) wNil))))) wNext) (wSeq (wAsg (wIfE (wTst (wBin (fEq false) (wBin fAt (wVar 1) (wC (.int 0))) (wC (.str "length")))) (wCal gLen (wCons (wVar 4) wNil)) (wCall sp__law_changed [] (wCons (wVar 0) (wCons (wVar 2) (wCons (wVar 3) wNil))))) (gN 5)) (wRet ((wAndV (wBin fGe (wVar 5) (wBin fAt (wVar 1) (wC (.int 1)))) ((wOrV (wBin (fIs false) (wBin fAt (wVar 1) (wC (.int 2))) (wC .non)) (wBin fLe (wVar 5) (wBin fAt (wVar 1) (wC (.int 2)))))))))))))
theorem wp__law_holds (ds : List D) (ah : AH) (q : QE) (x : QX) (h : sp__law_holds ds ah q x) : w__law_holds (startD 6 ds) ah { nx := fun _ ah' => q .non ah', rt := q } (fun e _ ah' => x e ah') := by
  obtain ⟨b, f, s, c, rfl, r, hc, hq⟩ := h
  show w__law_holds [some (.int b), some c, some (.int f), some (.int s), none, none] ah _ _
  unfold w__law_holds
  have hf := r.lenF
  refine ⟨b, f, rfl, r.b2, r.b10, hf, ?_⟩
  rcases cond_shape hc with ⟨z, rfl, hz, hl⟩ | ⟨i, rfl, hi⟩ | ⟨k, lo, hi, rfl, hk, l1, l6, hh⟩
  · simp only [wSeq, wAsg, wLst, wCons, wNil, wCall, wBin, wVar, wC, gt, st, gN, newL, wExpr, wMet, wTst, wIf, wRet, wNext, wTup, wCal, wNot, wAnd, wOr, wAndV, wOrV, wNotV, wIfE, wPar, wPar3, gT, gsC, gsN, wFld, fFld, wCMeth, wSl, wPart, wNoPart, wFor, wIter, fIter, wLc, nos, no, wRng1, wRng2, wChain, wNeg, wStar, wPut, wSetF, wAug, wYes, wEnum, atE, fAt, fIx, at0, at1, fEq, decide_true, gLen, fSl]
    refine ite_t ⟨size_line (by omega), dg_size (by omega), ?_⟩
    rw [Bool.false_bne, ends_cut (areB_len hz)]
    unfold holdsB at hq
    simp only [if_pos] at hq
    exact hq
  · simp only [wSeq, wAsg, wLst, wCons, wNil, wCall, wBin, wVar, wC, gt, st, gN, newL, wExpr, wMet, wTst, wIf, wRet, wNext, wTup, wCal, wNot, wAnd, wOr, wAndV, wOrV, wNotV, wIfE, wPar, wPar3, gT, gsC, gsN, wFld, fFld, wCMeth, wSl, wPart, wNoPart, wFor, wIter, fIter, wLc, nos, no, wRng1, wRng2, wChain, wNeg, wStar, wPut, wSetF, wAug, wYes, wEnum, atE, fAt, fIx, at0, at1, fEq, decide_eq_false kne2.2.2.2.2.2, decide_true, fSub, fLe]
    refine ite_f (ite_t ⟨b, i, rfl, by have := r.b10; omega, by omega, ?_⟩)
    unfold holdsB at hq
    simp only [if_neg kne2.2.2.2.2.2] at hq
    have e : leD (nr b (s - f)) (.int (i : Int)) = decide ((s : Int) - f ≤ ((b ^ i : Nat) : Int)) := by
      show decide _ = _
      rw [Bool.eq_iff_iff, decide_eq_true_eq, decide_eq_true_eq]
      have := nr_le (b := b) (d := s - f) (e := i) r.b2
      have := r.lt
      omega
    rw [e] at hq
    exact hq
  · have k1 : k ≠ "ends" := hk.elim (fun e => e ▸ kne2.1) (fun e => e ▸ kne2.2.1)
    have k2 : k ≠ "near" := hk.elim (fun e => e ▸ kne2.2.2.1) (fun e => e ▸ kne2.2.2.2.1)
    simp only [wSeq, wAsg, wLst, wCons, wNil, wCall, wBin, wVar, wC, gt, st, gN, newL, wExpr, wMet, wTst, wIf, wRet, wNext, wTup, wCal, wNot, wAnd, wOr, wAndV, wOrV, wNotV, wIfE, wPar, wPar3, gT, gsC, gsN, wFld, fFld, wCMeth, wSl, wPart, wNoPart, wFor, wIter, fIter, wLc, nos, no, wRng1, wRng2, wChain, wNeg, wStar, wPut, wSetF, wAug, wYes, wEnum, atE, fAt, fIx, at0, at1, at2, fEq, decide_eq_false k1, decide_eq_false k2, gLen, dg_len]
    refine ite_f (ite_f ?_)
    have hq' : q (.bl (geD (if k = "length" then (Z.ds b f).length else chg b f s) (.int lo) && (isNonE hi || leD (if k = "length" then (Z.ds b f).length else chg b f s) hi))) ah := hq
    have fin : ∀ (n : Nat) (ah' : AH), q (.bl (geD n (.int lo) && (isNonE hi || leD n hi))) ah' → fGe (.int n) (.int lo) ah' fun d ah1 => match d with
        | .bl true => fIs false hi .non ah1 fun d ah1 => match d with
          | .bl false => fLe (.int n) hi ah1 q
          | .bl true => q (.bl true) ah1
          | _ => False
        | .bl false => q (.bl false) ah1
        | _ => False := fun n ah' h => by
      have := size_end hh h
      simp only [fGe]
      cases hd : decide ((lo : Int) ≤ n) with
      | true => rw [hd, if_pos rfl] at this; exact this
      | false => rw [hd, if_neg (by decide)] at this; exact this
    by_cases hkl : k = "length"
    · rw [decide_eq_true hkl]
      refine ite_t ⟨dl_size (by omega), ?_⟩
      refine fin _ _ ?_
      rw [if_pos hkl] at hq'
      exact hq'
    · rw [decide_eq_false hkl]
      refine ite_f ⟨b, f, s, rfl, r, ?_⟩
      refine fin _ _ ?_
      rw [if_neg hkl] at hq'
      exact hq'
end Z
namespace Z
open PySem PySem.Spec PyProof.Rows L2
/-! ### which rule applies -/
def condsOf (r : D) : List D := match r with
  | .tup [.tup cs, _] => cs
  | _ => []
def keepOf (r : D) : D := match r with
  | .tup [.tup _, k] => k
  | _ => .non
def appl (b f s : Nat) (r : D) : Bool := (condsOf r).all (holdsB b f s)
def ruleN (b : Nat) (rs : List D) (f s : Nat) : Nat := (rs.findIdx? (appl b f s)).getD (rs.length - 1)
structure OkR (b : Nat) (rs : List D) : Prop where
  all : rs.all (ruleB b) = true
  l1 : 1 ≤ rs.length
  l8 : rs.length ≤ 8
  last : lastC rs = []
theorem rule_shape {b : Nat} {r : D} (h : ruleB b r = true) : ∃ cs k, r = .tup [.tup cs, k] ∧ cs.length ≤ 3 ∧ cs.all (condB b) = true ∧ keepB k = true := by
  unfold ruleB at h
  split at h
  · simp only [Bool.and_eq_true, decide_eq_true_eq] at h
    exact ⟨_, _, rfl, h.1, h.2.1, h.2.2⟩
  · cases h
theorem OkR.some_ {b : Nat} {rs : List D} (o : OkR b rs) (f s : Nat) : ∃ i, rs.findIdx? (appl b f s) = some i ∧ i < rs.length := by
  have hne : rs ≠ [] := fun e => by have := o.l1; rw [e] at this; simp at this
  have hm := List.getLast_mem hne
  obtain ⟨cs, k, e, _⟩ := rule_shape (List.all_eq_true.mp o.all _ hm)
  have hl := o.last
  unfold lastC at hl
  rw [List.getLast?_eq_some_getLast hne, e] at hl
  dsimp only at hl
  subst hl
  cases hf : rs.findIdx? (appl b f s) with
  | none =>
    have := List.findIdx?_eq_none_iff.mp hf _ hm
    rw [e] at this
    exact absurd this (by simp [appl, condsOf])
  | some i =>
    obtain ⟨h, _⟩ := List.findIdx?_eq_some_iff_getElem.mp hf
    exact ⟨i, rfl, h⟩
theorem OkR.rule {b : Nat} {rs : List D} (o : OkR b rs) (f s : Nat) : ∃ h : ruleN b rs f s < rs.length, appl b f s rs[ruleN b rs f s] = true ∧ ∀ j (hj : j < ruleN b rs f s), appl b f s rs[j] = false := by
  obtain ⟨i, hf, hi⟩ := o.some_ f s
  have e : ruleN b rs f s = i := by unfold ruleN; rw [hf]; rfl
  obtain ⟨h1, h2, h3⟩ := List.findIdx?_eq_some_iff_getElem.mp hf
  subst e
  exact ⟨h1, h2, fun j hj => by have := h3 j hj; simpa using this⟩
def sp_number_in : DSp := fun ds ah q _ => ∃ (b f s : Nat) (rs : List D), ds = [.int b, .tup rs, .int f, .int s] ∧ Rg b f s ∧ rs.all (ruleB b) = true ∧ rs.length ≤ 8 ∧ 1 ≤ rs.length ∧ ∀ ah', Ext ah ah' → q (.int (ruleN b rs f s : Nat)) ah'
def w_number_in : WS := (wSeq (wFor (wEnum (wCons (wVar 1) wNil)) (gT 2 (gsC (gN 4) (gsC (gT 2 (gsC (gN 5) (gsC (gN 6) gsN))) gsN))) (wIf (wTst (wCal gAll (wCons (wLc [7] (wIter (wVar 5)) (gN 7) wYes (wCall sp_holds [] (wCons (wVar 0) (wCons (wVar 7) (wCons (wVar 2) (wCons (wVar 3) wNil)))))) wNil))) (wRet (wVar 4)) wNext)) (wRet (wBin fSub (wCal gLen (wCons (wVar 1) wNil)) (wC (.int 1)))))
theorem holds_loop {b f s : Nat} {q : QE} {e1 e4 e5 e6 : Option D} (r : Rg b f s) : ∀ (cs : List D) (acc : List Bool) (ah : AH), cs.all (condB b) = true → acc.length + cs.length ≤ 100 → (∀ ah', Ext ah ah' → newL ((acc ++ cs.map (holdsB b f s)).map D.bl) ah' q) →
    lcGo (fun _ => True) (gN 7) wYes (wCall sp_holds [] (wCons (wVar 0) (wCons (wVar 7) (wCons (wVar 2) (wCons (wVar 3) wNil))))) [some (.int b), e1, some (.int f), some (.int s), e4, e5, e6, none] q cs (acc.map D.bl) ah
  | [], acc, ah, _, _, h => ⟨trivial, by simpa using h ah Ext.refl⟩
  | c :: cs, acc, ah, hc, hl, h => by
    rw [List.all_cons, Bool.and_eq_true] at hc
    simp only [List.length_cons] at hl
    refine ⟨trivial, by rw [List.length_map]; exact Nat.lt_of_lt_of_le (show acc.length < 101 by omega) (by decide), b, f, s, c, rfl, r, hc.1, fun ah1 x1 => ?_⟩
    have ih := holds_loop (q := q) (e1 := e1) (e4 := e4) (e5 := e5) (e6 := e6) r cs (acc ++ [holdsB b f s c]) ah1 hc.2 (by simp; omega) fun ah' x2 => by
      rw [List.append_assoc]
      exact h ah' (x1.trans x2)
    rw [List.map_append] at ih
    exact ih
abbrev w_num1 : WS := (wIf (wTst (wCal gAll (wCons (wLc [7] (wIter (wVar 5)) (gN 7) wYes (wCall sp_holds [] (wCons (wVar 0) (wCons (wVar 7) (wCons (wVar 2) (wCons (wVar 3) wNil)))))) wNil))) (wRet (wVar 4)) wNext)
theorem num_rules {b f s : Nat} {e1 : Option D} (r : Rg b f s) : ∀ (l : List D) (k : Nat) (o4 o5 o6 o7 : Option D) (ah : AH) (dn : DEnds) (x : QXS), l.all (ruleB b) = true →
    (∀ ah', Ext ah ah' → match l.findIdx? (appl b f s) with | some i => dn.rt (.int ((k + i : Nat) : Int)) ah' | none => ∀ o4 o5 o6 o7, dn.nx [some (.int b), e1, some (.int f), some (.int s), o4, o5, o6, o7] ah') →
    forGo (fun _ => True) (gT 2 (gsC (gN 4) (gsC (gT 2 (gsC (gN 5) (gsC (gN 6) gsN))) gsN))) w_num1 dn x (numbered k l) [some (.int b), e1, some (.int f), some (.int s), o4, o5, o6, o7] ah
  | [], k, o4, o5, o6, o7, ah, dn, x, _, h => ⟨trivial, h ah Ext.refl _ _ _ _⟩
  | rl :: l, k, o4, o5, o6, o7, ah, dn, x, hr, h => by
    rw [List.all_cons, Bool.and_eq_true] at hr
    obtain ⟨cs, kp, rfl, hl3, hc, hk⟩ := rule_shape hr.1
    refine ⟨trivial, rfl, rfl, ?_⟩
    simp only [wSeq, wAsg, wLst, wCons, wNil, wCall, wBin, wVar, wC, gt, st, gN, newL, wExpr, wMet, wTst, wIf, wRet, wNext, wTup, wCal, wNot, wAnd, wOr, wAndV, wOrV, wNotV, wIfE, wPar, wPar3, gT, gsC, gsN, wFld, fFld, wCMeth, wSl, wPart, wNoPart, wFor, wIter, fIter, wLc, nos, no, wRng1, wRng2, wChain, wNeg, wStar, wPut, wSetF, wAug, wYes, wEnum, atE]
    refine holds_loop r cs [] ah hc (by simp; omega) fun ah1 x1 => ?_
    rw [List.nil_append]
    simp only [newL, gAll, get_push]
    refine ⟨_, rfl, ?_⟩
    have ea : (cs.map (holdsB b f s)).all id = appl b f s (.tup [.tup cs, kp]) := by rw [List.all_map]; rfl
    rw [ea]
    have x2 := x1.trans (Ext.push [O.lst ((cs.map (holdsB b f s)).map D.bl)])
    cases hap : appl b f s (.tup [.tup cs, kp]) with
    | true =>
      have := h _ x2
      rw [List.findIdx?_cons, hap] at this
      simpa using this
    | false =>
      refine ite_f ?_
      refine num_rules r l (k + 1) _ _ _ _ _ dn x hr.2 fun ah' x3 => ?_
      have := h _ (x2.trans x3)
      rw [List.findIdx?_cons, hap] at this
      simp only [Bool.false_eq_true, if_false] at this
      cases hf : l.findIdx? (appl b f s) with
      | none => rw [hf] at this; exact this
      | some i =>
        rw [hf] at this
        dsimp only
        rw [show k + 1 + i = k + (i + 1) by omega]
        exact this
theorem wp_number_in (ds : List D) (ah : AH) (q : QE) (x : QX) (h : sp_number_in ds ah q x) : w_number_in (startD 8 ds) ah { nx := fun _ ah' => q .non ah', rt := q } (fun e _ ah' => x e ah') := by
  obtain ⟨b, f, s, rs, rfl, r, hr, hl, h1, hq⟩ := h
  show w_number_in [some (.int b), some (.tup rs), some (.int f), some (.int s), none, none, none, none] ah _ _
  refine num_rules r rs 0 none none none none ah _ _ hr fun ah' x1 => ?_
  have := hq _ x1
  unfold ruleN at this
  cases hf : rs.findIdx? (appl b f s) with
  | some i =>
    rw [hf] at this
    dsimp only
    rw [Nat.zero_add]
    exact this
  | none =>
    rw [hf] at this
    intro o4 o5 o6 o7
    simp only [wSeq, wAsg, wLst, wCons, wNil, wCall, wBin, wVar, wC, gt, st, gN, newL, wExpr, wMet, wTst, wIf, wRet, wNext, wTup, wCal, wNot, wAnd, wOr, wAndV, wOrV, wNotV, wIfE, wPar, wPar3, gT, gsC, gsN, wFld, fFld, wCMeth, wSl, wPart, wNoPart, wFor, wIter, fIter, wLc, nos, no, wRng1, wRng2, wChain, wNeg, wStar, wPut, wSetF, wAug, wYes, wEnum, atE, gLen, fSub]
    have e : ((rs.length : Nat) : Int) - 1 = ((rs.length - 1 : Nat) : Int) := by omega
    rw [e]
    exact this
/-! ### the law's own -/
def sp__law_rule : DSp := fun ds ah q _ => ∃ (b f s : Nat) (rs : List D), ds = [.int b, .tup rs, .int f, .int s] ∧ Rg b f s ∧ OkR b rs ∧ ∀ ah', Ext ah ah' → q (.int (ruleN b rs f s : Nat)) ah'
def w__law_rule : WS := (wSeq (wAsg (wC (.int 0)) (gN 4)) (wSeq (wWhile (wTst (wBin (fEq true) (wLc [5] (wIter (wBin fAt (wBin fAt (wVar 1) (wVar 4)) (wC (.int 0)))) (gN 5) (wNot (wTst (wCall sp__law_holds [] (wCons (wVar 0) (wCons (wVar 5) (wCons (wVar 2) (wCons (wVar 3) wNil))))))) (wC (.int 1))) (wLst wNil))) (wAsg (wBin fAdd (wVar 4) (wC (.int 1))) (gN 4))) (wRet (wVar 4))))
theorem unmet_loop {b f s : Nat} {q : QE} {e1 e4 : Option D} (r : Rg b f s) : ∀ (cs : List D) (n : Nat) (ah : AH), cs.all (condB b) = true → n + cs.length ≤ 100 → (∀ m, (m = 0 ↔ n = 0 ∧ cs.all (holdsB b f s) = true) → newL ((List.replicate m (1 : Int)).map D.int) ah q) →
    lcGo (fun _ => True) (gN 5) (wNot (wTst (wCall sp__law_holds [] (wCons (wVar 0) (wCons (wVar 5) (wCons (wVar 2) (wCons (wVar 3) wNil))))))) (wC (.int 1)) [some (.int b), e1, some (.int f), some (.int s), e4, none] q cs ((List.replicate n (1 : Int)).map D.int) ah
  | [], n, ah, _, _, h => ⟨trivial, h n (by simp)⟩
  | c :: cs, n, ah, hc, hl, h => by
    rw [List.all_cons, Bool.and_eq_true] at hc
    simp only [List.length_cons] at hl
    refine ⟨trivial, by rw [List.length_map, List.length_replicate]; exact Nat.lt_of_lt_of_le (show n < 101 by omega) (by decide), b, f, s, c, rfl, r, hc.1, ?_⟩
    cases hh : holdsB b f s c with
    | true =>
      refine ite_f ?_
      exact unmet_loop r cs n ah hc.2 (by omega) fun m hm => h m (by rw [hm, List.all_cons, hh, Bool.true_and])
    | false =>
      refine ite_t ?_
      have ih := unmet_loop (q := q) (e1 := e1) (e4 := e4) r cs (n + 1) ah hc.2 (by omega) fun m hm => h m (by rw [hm, List.all_cons, hh]; simp)
      have e : (List.replicate (n + 1) (1 : Int)).map D.int = (List.replicate n (1 : Int)).map D.int ++ [.int 1] := by
        rw [List.replicate_succ', List.map_append]; rfl
      rw [e] at ih
      exact ih
theorem wp__law_rule (ds : List D) (ah : AH) (q : QE) (x : QX) (h : sp__law_rule ds ah q x) : w__law_rule (startD 6 ds) ah { nx := fun _ ah' => q .non ah', rt := q } (fun e _ ah' => x e ah') := by
  obtain ⟨b, f, s, rs, rfl, r, o, hq⟩ := h
  show w__law_rule [some (.int b), some (.tup rs), some (.int f), some (.int s), none, none] ah _ _
  unfold w__law_rule
  simp only [wSeq, wAsg, wC, gN, st]
  obtain ⟨hlt, ha, hb⟩ := o.rule f s
  refine ⟨fun m env ah' => Ext ah ah' ∧ ∃ (k : Nat) (o5 : Option D), env = [some (.int b), some (.tup rs), some (.int f), some (.int s), some (.int k), o5] ∧ k ≤ ruleN b rs f s ∧ m = ruleN b rs f s - k, ⟨_, Ext.refl, 0, none, rfl, by omega, rfl⟩, ?_⟩
  rintro m env ah' ⟨xa, k, o5, rfl, hk, hm⟩
  have hkl : k < rs.length := by omega
  have e1 : rs[k]? = some rs[k] := List.getElem?_eq_getElem hkl
  have hrk := List.all_eq_true.mp o.all rs[k] (List.getElem_mem hkl)
  obtain ⟨cs, kp, erk, hl3, hc, hkp⟩ := rule_shape hrk
  simp only [wSeq, wAsg, wLst, wCons, wNil, wCall, wBin, wVar, wC, gt, st, gN, newL, wExpr, wMet, wTst, wIf, wRet, wNext, wTup, wCal, wNot, wAnd, wOr, wAndV, wOrV, wNotV, wIfE, wPar, wPar3, gT, gsC, gsN, wFld, fFld, wCMeth, wSl, wPart, wNoPart, wFor, wIter, fIter, wLc, nos, no, wRng1, wRng2, wChain, wNeg, wStar, wPut, wSetF, wAug, wYes, wEnum, atE, fAt, fIx, atI_nat, e1, erk, at0]
  refine unmet_loop r cs 0 ah' hc (by omega) fun j hj => ?_
  refine ⟨by decide, ?_⟩
  refine eq_ints (l := List.replicate j 1) (l' := []) (Ext.push _ _ _ (get_push _ _)) (get_push _ _) ?_
  have x3 : Ext ah (ah' ++ [O.lst ((List.replicate j (1 : Int)).map D.int)] ++ [O.lst []]) := xa.trans ((Ext.push _).trans (Ext.push _))
  have ej : (List.replicate j (1 : Int) = []) ↔ j = 0 := by simp
  have eap : appl b f s rs[k] = cs.all (holdsB b f s) := by rw [erk]; rfl
  by_cases hkr : k < ruleN b rs f s
  · have := hb k hkr
    rw [eap] at this
    rw [decide_eq_false (by rw [ej, hj, this]; simp)]
    refine ite_t ⟨m - 1, by omega, x3, k + 1, o5, ?_, by omega, by omega⟩
    simp only [Int.natCast_add, Int.natCast_one]
  · have hke : k = ruleN b rs f s := by omega
    subst hke
    rw [eap] at ha
    rw [decide_eq_true (by rw [ej, hj, ha]; simp)]
    refine ite_f ?_
    exact hq _ x3
/-! ### how many digits are kept -/
def keptN (b : Nat) (k : D) (f s : Nat) : Nat := match k with
  | .tup [.str w, .int i] => if w = "changed" then min (Z.ds b s).length (max i.toNat (chg b f s)) else min (Z.ds b s).length i.toNat
  | _ => (Z.ds b s).length
theorem keep_shape {k : D} (h : keepB k = true) : k = .tup [.str "all"] ∨ ∃ (w : Str) (i : Nat), k = .tup [.str w, .int i] ∧ (w = "changed" ∨ w = "last") ∧ 1 ≤ i ∧ i ≤ 6 := by
  unfold keepB at h
  split at h
  · rw [of_decide_eq_true h]; exact .inl rfl
  · rename_i w y
    simp only [Bool.and_eq_true, Bool.or_eq_true, decide_eq_true_eq] at h
    refine .inr ?_
    obtain ⟨hw, hy⟩ := h
    unfold among at hy
    split at hy
    · rename_i i
      simp only [Bool.and_eq_true, decide_eq_true_eq] at hy
      exact ⟨w, i.toNat, by rw [Int.toNat_of_nonneg (by omega)], hw, by omega, by omega⟩
    · cases hy
  · cases h
theorem kne3 : ("changed" : Str) ≠ "all" ∧ ("last" : Str) ≠ "all" ∧ ("last" : Str) ≠ "changed" := by decide +kernel
theorem keptN_bounds {b f s : Nat} {k : D} (r : Rg b f s) (h : keepB k = true) : 1 ≤ keptN b k f s ∧ keptN b k f s ≤ (Z.ds b s).length := by
  have hc := chg_bounds r
  rcases keep_shape h with rfl | ⟨w, i, rfl, hw, h1, h6⟩
  · show 1 ≤ (Z.ds b s).length ∧ (Z.ds b s).length ≤ _
    omega
  · show 1 ≤ (if w = "changed" then _ else _) ∧ (if w = "changed" then _ else _) ≤ _
    split <;> simp only [Int.toNat_natCast] <;> omega
def sp_kept_by : DSp := fun ds ah q _ => ∃ (b f s : Nat) (k : D), ds = [.int b, k, .int f, .int s] ∧ Rg b f s ∧ keepB k = true ∧ ∀ ah', Ext ah ah' → q (.int (keptN b k f s : Nat)) ah'
def w_kept_by : WS := (wSeq (wAsg (wCall sp_length_of [] (wCons (wVar 0) (wCons (wVar 3) wNil))) (gN 4)) (wSeq (wIf (wTst (wBin (fEq false) (wBin fAt (wVar 1) (wC (.int 0))) (wC (.str "all")))) (wRet (wVar 4)) wNext) (wSeq (wIf (wTst (wBin (fEq false) (wBin fAt (wVar 1) (wC (.int 0))) (wC (.str "changed")))) (wRet (wCal gMin2 (wCons (wVar 4) (wCons (wCal gMax2 (wCons (wBin fAt (wVar 1) (wC (.int 1))) (wCons (wCall sp_changed_in [] (wCons (wVar 0) (wCons (wVar 2) (wCons (wVar 3) wNil)))) wNil))) wNil)))) wNext) (wRet (wCal gMin2 (wCons (wVar 4) (wCons (wBin fAt (wVar 1) (wC (.int 1))) wNil)))))))
theorem wp_kept_by (ds : List D) (ah : AH) (q : QE) (x : QX) (h : sp_kept_by ds ah q x) : w_kept_by (startD 5 ds) ah { nx := fun _ ah' => q .non ah', rt := q } (fun e _ ah' => x e ah') := by
  obtain ⟨b, f, s, k, rfl, r, hk, hq⟩ := h
  show w_kept_by [some (.int b), some k, some (.int f), some (.int s), none] ah _ _
  refine ⟨b, s, rfl, r.b2, r.b10, ?_⟩
  rcases keep_shape hk with rfl | ⟨w, i, rfl, hw, h1, h6⟩
  · simp only [wSeq, wAsg, wLst, wCons, wNil, wCall, wBin, wVar, wC, gt, st, gN, newL, wExpr, wMet, wTst, wIf, wRet, wNext, wTup, wCal, wNot, wAnd, wOr, wAndV, wOrV, wNotV, wIfE, wPar, wPar3, gT, gsC, gsN, wFld, fFld, wCMeth, wSl, wPart, wNoPart, wFor, wIter, fIter, wLc, nos, no, wRng1, wRng2, wChain, wNeg, wStar, wPut, wSetF, wAug, wYes, wEnum, atE, fAt, fIx, at0, fEq, decide_true]
    exact ite_t (hq _ Ext.refl)
  · have hna : w ≠ "all" := hw.elim (fun e => e ▸ kne3.1) (fun e => e ▸ kne3.2.1)
    simp only [wSeq, wAsg, wLst, wCons, wNil, wCall, wBin, wVar, wC, gt, st, gN, newL, wExpr, wMet, wTst, wIf, wRet, wNext, wTup, wCal, wNot, wAnd, wOr, wAndV, wOrV, wNotV, wIfE, wPar, wPar3, gT, gsC, gsN, wFld, fFld, wCMeth, wSl, wPart, wNoPart, wFor, wIter, fIter, wLc, nos, no, wRng1, wRng2, wChain, wNeg, wStar, wPut, wSetF, wAug, wYes, wEnum, atE, fAt, fIx, at0, at1, fEq, decide_eq_false hna, gMin2, gMax2]
    refine ite_f ?_
    by_cases hc : w = "changed"
    · rw [decide_eq_true hc]
      refine ite_t ⟨b, f, s, rfl, r, fun ah1 x1 => ?_⟩
      have := hq _ x1
      unfold keptN at this
      simp only [if_pos hc, Int.toNat_natCast] at this
      have e : (if (if ((chg b f s : Nat) : Int) > i then ((chg b f s : Nat) : Int) else i) < ((Z.ds b s).length : Int) then (if ((chg b f s : Nat) : Int) > i then ((chg b f s : Nat) : Int) else i) else ((Z.ds b s).length : Int)) = ((min (Z.ds b s).length (max i (chg b f s)) : Nat) : Int) := by
        split <;> split at * <;> omega
      dsimp only
      rw [e]
      exact this
    · rw [decide_eq_false hc]
      refine ite_f ?_
      have := hq _ Ext.refl
      unfold keptN at this
      simp only [if_neg hc, Int.toNat_natCast] at this
      have e : (if (i : Int) < ((Z.ds b s).length : Int) then (i : Int) else ((Z.ds b s).length : Int)) = ((min (Z.ds b s).length i : Nat) : Int) := by
        split <;> omega
      rw [e]
      exact this
def sp__law_kept_by : DSp := fun ds ah q _ => ∃ (b f s : Nat) (k : D), ds = [.int b, k, .int f, .int s] ∧ Rg b f s ∧ keepB k = true ∧ q (.int (keptN b k f s : Nat)) ah
def w__law_kept_by : WS := (wSeq (wAsg (wCal gLen (wCons (wCall sp__law_digits [] (wCons (wVar 0) (wCons (wVar 3) wNil))) wNil)) (gN 4)) (wSeq (wIf (wTst (wBin (fEq false) (wBin fAt (wVar 1) (wC (.int 0))) (wC (.str "all")))) (wRet (wVar 4)) wNext) (wSeq (wAsg (wBin fAt (wVar 1) (wC (.int 1))) (gN 5)) (wSeq (wIf (wTst (wBin (fEq false) (wBin fAt (wVar 1) (wC (.int 0))) (wC (.str "changed")))) (wAsg (wCal gMax2 (wCons (wVar 5) (wCons (wCall sp__law_changed [] (wCons (wVar 0) (wCons (wVar 2) (wCons (wVar 3) wNil)))) wNil))) (gN 5)) wNext) (wRet (wCal gMin2 (wCons (wVar 5) (wCons (wVar 4) wNil))))))))
theorem wp__law_kept_by (ds : List D) (ah : AH) (q : QE) (x : QX) (h : sp__law_kept_by ds ah q x) : w__law_kept_by (startD 6 ds) ah { nx := fun _ ah' => q .non ah', rt := q } (fun e _ ah' => x e ah') := by
  obtain ⟨b, f, s, k, rfl, r, hk, hq⟩ := h
  show w__law_kept_by [some (.int b), some k, some (.int f), some (.int s), none, none] ah _ _
  refine ⟨b, s, rfl, r.b2, r.b10, r.len, ?_⟩
  have hs := r.len
  rcases keep_shape hk with rfl | ⟨w, i, rfl, hw, h1, h6⟩
  · simp only [wSeq, wAsg, wLst, wCons, wNil, wCall, wBin, wVar, wC, gt, st, gN, newL, wExpr, wMet, wTst, wIf, wRet, wNext, wTup, wCal, wNot, wAnd, wOr, wAndV, wOrV, wNotV, wIfE, wPar, wPar3, gT, gsC, gsN, wFld, fFld, wCMeth, wSl, wPart, wNoPart, wFor, wIter, fIter, wLc, nos, no, wRng1, wRng2, wChain, wNeg, wStar, wPut, wSetF, wAug, wYes, wEnum, atE, fAt, fIx, at0, fEq, decide_true, gLen, dg_len]
    exact ⟨dl_size (by omega), ite_t hq⟩
  · have hna : w ≠ "all" := hw.elim (fun e => e ▸ kne3.1) (fun e => e ▸ kne3.2.1)
    simp only [wSeq, wAsg, wLst, wCons, wNil, wCall, wBin, wVar, wC, gt, st, gN, newL, wExpr, wMet, wTst, wIf, wRet, wNext, wTup, wCal, wNot, wAnd, wOr, wAndV, wOrV, wNotV, wIfE, wPar, wPar3, gT, gsC, gsN, wFld, fFld, wCMeth, wSl, wPart, wNoPart, wFor, wIter, fIter, wLc, nos, no, wRng1, wRng2, wChain, wNeg, wStar, wPut, wSetF, wAug, wYes, wEnum, atE, fAt, fIx, at0, at1, fEq, decide_eq_false hna, gMin2, gMax2, gLen, dg_len]
    refine ⟨dl_size (by omega), ite_f ?_⟩
    unfold keptN at hq
    by_cases hc : w = "changed"
    · rw [decide_eq_true hc]
      refine ite_t ⟨b, f, s, rfl, r, ?_⟩
      simp only [if_pos hc, Int.toNat_natCast] at hq
      have e : (if ((Z.ds b s).length : Int) < (if ((chg b f s : Nat) : Int) > i then ((chg b f s : Nat) : Int) else i) then ((Z.ds b s).length : Int) else (if ((chg b f s : Nat) : Int) > i then ((chg b f s : Nat) : Int) else i)) = ((min (Z.ds b s).length (max i (chg b f s)) : Nat) : Int) := by
        split <;> split at * <;> omega
      dsimp only
      rw [e]
      exact hq
    · rw [decide_eq_false hc]
      refine ite_f ?_
      simp only [if_neg hc, Int.toNat_natCast] at hq
      have e : (if ((Z.ds b s).length : Int) < (i : Int) then ((Z.ds b s).length : Int) else (i : Int)) = ((min (Z.ds b s).length i : Nat) : Int) := by
        split <;> omega
      rw [e]
      exact hq
end Z
namespace Z
open PySem PySem.Spec PyProof.Rows L2
/-! ### need_range -/
def rangeB (d e : D) : Bool := match d, e with
  | .int i, .int j => decide (1 ≤ i) && (decide (1 ≤ j) && decide (i < j))
  | _, _ => false
theorem rangeB_nat {d e : D} (h : rangeB d e = true) : ∃ f s : Nat, d = .int f ∧ e = .int s ∧ 1 ≤ f ∧ f < s := by
  unfold rangeB at h
  split at h
  · rename_i i j
    simp only [Bool.and_eq_true, decide_eq_true_eq] at h
    exact ⟨i.toNat, j.toNat, by rw [Int.toNat_of_nonneg (by omega)], by rw [Int.toNat_of_nonneg (by omega)], by omega, by omega⟩
  · cases h
theorem rangeB_of {f s : Nat} (h1 : 1 ≤ f) (h2 : f < s) : rangeB (.int f) (.int s) = true := by
  show (decide _ && (decide _ && decide _)) = true
  simp only [Bool.and_eq_true, decide_eq_true_eq]
  omega
def sp_need_range : DSp := fun ds ah q x => ∃ d e, ds = [d, e] ∧ (tyD ah d).isSome = true ∧ (tyD ah e).isSome = true ∧ (if rangeB d e = true then q .non ah else x ("BadRange", [("value", .tup [d, e])]) ah)
def w_need_range : WS := (wIf ((wOr (wNot (wTst (wCall sp_is_number [] (wCons (wVar 0) wNil)))) (wOr (wNot (wTst (wCall sp_is_number [] (wCons (wVar 1) wNil)))) (wTst (wBin fGe (wVar 0) (wVar 1)))))) (wRaise "BadRange" ["value"] (wCons (wTup (wCons (wVar 0) (wCons (wVar 1) wNil))) wNil)) wNext)
theorem isNum_int {d : D} (h : isNum d = true) : ∃ i : Int, d = .int i ∧ 1 ≤ i := by
  unfold isNum at h
  split at h
  · exact ⟨_, rfl, of_decide_eq_true h⟩
  · cases h
theorem wp_need_range (ds : List D) (ah : AH) (q : QE) (x : QX) (h : sp_need_range ds ah q x) : w_need_range (startD 2 ds) ah { nx := fun _ ah' => q .non ah', rt := q } (fun e _ ah' => x e ah') := by
  obtain ⟨d, e, rfl, h1, h2, hq⟩ := h
  show w_need_range [some d, some e] ah _ _
  refine ⟨d, rfl, h1, ?_⟩
  have bad : rangeB d e = false → (wRaise "BadRange" ["value"] (wCons (wTup (wCons (wVar 0) (wCons (wVar 1) wNil))) wNil)) [some d, some e] ah { nx := fun _ ah' => q .non ah', rt := q } (fun e _ ah' => x e ah') := fun hb => by
    rw [hb, if_neg (by decide)] at hq
    exact ⟨by show 2 ≤ 16777216; decide, rfl, by decide, hq⟩
  cases hd : isNum d with
  | false =>
    refine bad ?_
    unfold rangeB
    split
    · have hd' : decide _ = false := hd
      rw [hd']; rfl
    · rfl
  | true =>
    refine ⟨e, rfl, h2, ?_⟩
    obtain ⟨i, rfl, hi⟩ := isNum_int hd
    cases he : isNum e with
    | false =>
      refine bad ?_
      unfold rangeB
      split
      · have he' : decide _ = false := he
        rw [he']; simp
      · rfl
    | true =>
      obtain ⟨j, rfl, hj⟩ := isNum_int he
      have e : rangeB (.int i) (.int j) = decide (i < j) := by
        show (decide _ && (decide _ && _)) = _
        rw [decide_eq_true hi, decide_eq_true hj]; rfl
      simp only [wSeq, wAsg, wLst, wCons, wNil, wCall, wBin, wVar, wC, gt, st, gN, newL, wExpr, wMet, wTst, wIf, wRet, wNext, wTup, wCal, wNot, wAnd, wOr, wAndV, wOrV, wNotV, wIfE, wPar, wPar3, gT, gsC, gsN, wFld, fFld, wCMeth, wSl, wPart, wNoPart, wFor, wIter, fIter, wLc, nos, no, wRng1, wRng2, wChain, wNeg, wStar, wPut, wSetF, wAug, wYes, wEnum, atE, fGe, Bool.not_true, Bool.false_eq_true, if_false]
      by_cases c : i < j
      · rw [decide_eq_false (by omega : ¬ j ≤ i)]
        refine ite_f ?_
        rw [e, decide_eq_true c, if_pos rfl] at hq
        exact hq
      · rw [decide_eq_true (by omega : j ≤ i)]
        refine ite_t (bad ?_)
        rw [e, decide_eq_false c]
/-! ### a style's methods -/
/-- a style and two things that may be a range of it -/
structure StyArg (ah : AH) (ds : List D) (n b : Nat) (rs : List D) (d e : D) : Prop where
  eq : ds = [.ref n, d, e]
  at_ : ah[n]? = some (styO (.int b) rs)
  b2 : 2 ≤ b
  b10 : b ≤ 10
  ok : OkR b rs
  t1 : (tyD ah d).isSome = true
  t2 : (tyD ah e).isSome = true
  len : ∀ s : Nat, e = .int s → (Z.ds b s).length ≤ 10000
theorem StyArg.rg {ah : AH} {ds : List D} {n b : Nat} {rs : List D} {d e : D} (a : StyArg ah ds n b rs d e) {f s : Nat} (hd : d = .int f) (he : e = .int s) (h1 : 1 ≤ f) (h2 : f < s) : Rg b f s := ⟨a.b2, a.b10, h1, h2, a.len s he⟩
theorem tyD_isSome_ext {ah ah' : AH} (x : Ext ah ah') {d : D} (h : (tyD ah d).isSome = true) : (tyD ah' d).isSome = true := by
  obtain ⟨t, ht⟩ := Option.isSome_iff_exists.mp h
  rw [tyD_ext x ht]; rfl
theorem StyArg.ext {ah ah' : AH} {ds : List D} {n b : Nat} {rs : List D} {d e : D} (a : StyArg ah ds n b rs d e) (x : Ext ah ah') : StyArg ah' ds n b rs d e :=
  ⟨a.eq, x _ _ a.at_, a.b2, a.b10, a.ok, tyD_isSome_ext x a.t1, tyD_isSome_ext x a.t2, a.len⟩
/-- what a method tells of a range, or that it refuses -/
def tellR (v : Nat → Nat → D) (d e : D) (ah : AH) (q : QE) (x : QX) : Prop := ∀ ah', Ext ah ah' → (if rangeB d e = true then ∀ f s : Nat, d = .int f → e = .int s → q (v f s) ah' else x ("BadRange", [("value", .tup [d, e])]) ah')
def sp_Style_rule_of : DSp := fun ds ah q x => ∃ n b rs d e, StyArg ah ds n b rs d e ∧ tellR (fun f s => .int (ruleN b rs f s : Nat)) d e ah q x
def w_Style_rule_of : WS := (wSeq (wExpr (wCall sp_need_range [] (wCons (wVar 1) (wCons (wVar 2) wNil)))) (wRet (wCall sp_number_in [] (wCons (wFld ["Style"] "own_base" (wVar 0)) (wCons (wFld ["Style"] "own_rules" (wVar 0)) (wCons (wVar 1) (wCons (wVar 2) wNil)))))))
theorem look_base {b : D} {rs : List D} : List.lookup ("own_base" : Str) [("own_base", b), ("own_rules", D.tup rs)] = some b := by simp [List.lookup]
theorem nb : ((("own_rules" : Str) == "own_base") : Bool) = false := by decide +kernel
theorem look_rules {b : D} {rs : List D} : List.lookup ("own_rules" : Str) [("own_base", b), ("own_rules", D.tup rs)] = some (D.tup rs) := by
  rw [List.lookup_cons, nb]; simp [List.lookup]
theorem wp_Style_rule_of (ds : List D) (ah : AH) (q : QE) (x : QX) (h : sp_Style_rule_of ds ah q x) : w_Style_rule_of (startD 3 ds) ah { nx := fun _ ah' => q .non ah', rt := q } (fun e _ ah' => x e ah') := by
  obtain ⟨n, b, rs, d, e, A, hq⟩ := h
  obtain ⟨rfl, hn, h2, hb, ok, t1, t2, hl⟩ := A
  show w_Style_rule_of [some (.ref n), some d, some e] ah _ _
  refine ⟨d, e, rfl, t1, t2, ?_⟩
  cases hr : rangeB d e with
  | false =>
    have := hq _ Ext.refl
    rw [hr, if_neg (by decide)] at this
    rw [if_neg (by decide)]
    exact this
  | true =>
    rw [if_pos rfl]
    obtain ⟨f, s, rfl, rfl, f1, lt⟩ := rangeB_nat hr
    simp only [wSeq, wAsg, wLst, wCons, wNil, wCall, wBin, wVar, wC, gt, st, gN, newL, wExpr, wMet, wTst, wIf, wRet, wNext, wTup, wCal, wNot, wAnd, wOr, wAndV, wOrV, wNotV, wIfE, wPar, wPar3, gT, gsC, gsN, wFld, fFld, wCMeth, wSl, wPart, wNoPart, wFor, wIter, fIter, wLc, nos, no, wRng1, wRng2, wChain, wNeg, wStar, wPut, wSetF, wAug, wYes, wEnum, atE, hn, look_base, look_rules]
    refine ⟨by simp, by simp, b, f, s, rs, rfl, ⟨h2, hb, f1, lt, hl s rfl⟩, ok.all, ok.l8, ok.l1, fun ah1 x1 => ?_⟩
    have := hq _ x1
    rw [hr, if_pos rfl] at this
    exact this f s rfl rfl
def keptS (b : Nat) (rs : List D) (f s : Nat) : Nat := keptN b (keepOf (rs.getD (ruleN b rs f s) .non)) f s
theorem OkR.at_ {b : Nat} {rs : List D} (o : OkR b rs) (f s : Nat) : ∃ cs k, rs[ruleN b rs f s]? = some (.tup [.tup cs, k]) ∧ keepB k = true ∧ keepOf (rs.getD (ruleN b rs f s) .non) = k := by
  obtain ⟨h, _⟩ := o.rule f s
  obtain ⟨cs, k, e, _, _, hk⟩ := rule_shape (List.all_eq_true.mp o.all _ (List.getElem_mem h))
  refine ⟨cs, k, by rw [List.getElem?_eq_getElem h, e], hk, ?_⟩
  rw [List.getD_eq_getElem?_getD, List.getElem?_eq_getElem h, e]; rfl
theorem keptS_bounds {b f s : Nat} {rs : List D} (o : OkR b rs) (r : Rg b f s) : 1 ≤ keptS b rs f s ∧ keptS b rs f s ≤ (Z.ds b s).length := by
  obtain ⟨cs, k, _, hk, e⟩ := o.at_ f s
  unfold keptS
  rw [e]
  exact keptN_bounds r hk
def sp_Style_kept : DSp := fun ds ah q x => ∃ n b rs d e, StyArg ah ds n b rs d e ∧ tellR (fun f s => .int (keptS b rs f s : Nat)) d e ah q x
def w_Style_kept : WS := (wSeq (wAsg (wMeth "Style" "rule_of" sp_Style_rule_of (wVar 0) (wCons (wVar 1) (wCons (wVar 2) wNil))) (gN 3)) (wRet (wCall sp_kept_by [] (wCons (wFld ["Style"] "own_base" (wVar 0)) (wCons (wBin fAt (wBin fAt (wFld ["Style"] "own_rules" (wVar 0)) (wVar 3)) (wC (.int 1))) (wCons (wVar 1) (wCons (wVar 2) wNil)))))))
theorem no_meth {b : D} {rs : List D} {m : Str} (h1 : m ≠ "own_base") (h2 : m ≠ "own_rules") : List.lookup m [(("own_base" : Str), b), ("own_rules", D.tup rs)] = none := by
  rw [List.lookup_cons, show (m == ("own_base" : Str)) = false from by simpa using h1, List.lookup_cons, show (m == ("own_rules" : Str)) = false from by simpa using h2]; rfl
theorem mne : ("rule_of" : Str) ≠ "own_base" ∧ ("rule_of" : Str) ≠ "own_rules" ∧ ("kept" : Str) ≠ "own_base" ∧ ("kept" : Str) ≠ "own_rules" ∧ ("tail" : Str) ≠ "own_base" ∧ ("tail" : Str) ≠ "own_rules" := by decide +kernel
theorem insSty {n : Nat} {b : D} {rs : List D} {m : Str} {ah : AH} {k : Prop} (h : ah[n]? = some (styO b rs)) (h1 : m ≠ "own_base") (h2 : m ≠ "own_rules") (hk : k) : insOf "Style" m (.ref n) ah k := by
  unfold insOf
  simp only [h]
  exact ⟨trivial, no_meth h1 h2, hk⟩
theorem wp_Style_kept (ds : List D) (ah : AH) (q : QE) (x : QX) (h : sp_Style_kept ds ah q x) : w_Style_kept (startD 4 ds) ah { nx := fun _ ah' => q .non ah', rt := q } (fun e _ ah' => x e ah') := by
  obtain ⟨n, b, rs, d, e, A, hq⟩ := h
  have A' := A
  obtain ⟨rfl, hn, h2, hb, ok, t1, t2, hl⟩ := A
  show w_Style_kept [some (.ref n), some d, some e, none] ah _ _
  refine insSty hn mne.1 mne.2.1 ⟨n, b, rs, d, e, A', fun ah1 x1 => ?_⟩
  have h1 := hq ah1 x1
  cases hr : rangeB d e with
  | false =>
    rw [hr, if_neg (by decide)] at h1
    rw [if_neg (by decide)]
    exact h1
  | true =>
    rw [if_pos rfl]
    intro f s e1 e2
    subst e1 e2
    obtain ⟨f', s', e1, e2, f1, lt⟩ := rangeB_nat hr
    have ef : f = f' := by injection e1 with e1; omega
    have es : s = s' := by injection e2 with e2; omega
    subst ef es
    obtain ⟨cs, k, ek, hk, eo⟩ := ok.at_ f s
    simp only [wSeq, wAsg, wLst, wCons, wNil, wCall, wBin, wVar, wC, gt, st, gN, newL, wExpr, wMet, wTst, wIf, wRet, wNext, wTup, wCal, wNot, wAnd, wOr, wAndV, wOrV, wNotV, wIfE, wPar, wPar3, gT, gsC, gsN, wFld, fFld, wCMeth, wSl, wPart, wNoPart, wFor, wIter, fIter, wLc, nos, no, wRng1, wRng2, wChain, wNeg, wStar, wPut, wSetF, wAug, wYes, wEnum, atE, x1 _ _ hn, look_base, look_rules, fAt, fIx, atI_nat, ek, at1]
    refine ⟨by simp, by simp, b, f, s, k, rfl, ⟨h2, hb, f1, lt, hl s rfl⟩, hk, fun ah2 x2 => ?_⟩
    have h3 := hq ah2 (x1.trans x2)
    rw [hr, if_pos rfl] at h3
    have := h3 f s rfl rfl
    dsimp only at this
    unfold keptS at this
    rw [eo] at this
    exact this
def tailL (b : Nat) (rs : List D) (f s : Nat) : List Nat := (Z.ds b s).drop ((Z.ds b s).length - keptS b rs f s)
def sp_Style_tail : DSp := fun ds ah q x => ∃ n b rs d e, StyArg ah ds n b rs d e ∧ tellR (fun f s => .str (dg (tailL b rs f s))) d e ah q x
def w_Style_tail : WS := (wSeq (wPar 3 4 (wCons (wMeth "Style" "kept" sp_Style_kept (wVar 0) (wCons (wVar 1) (wCons (wVar 2) wNil))) (wCons (wCall sp_figures_of [] (wCons (wFld ["Style"] "own_base" (wVar 0)) (wCons (wVar 2) wNil))) wNil))) (wRet (wSl (wVar 4) (wPart (wBin fSub (wCal gLen (wCons (wVar 4) wNil)) (wVar 3))) wNoPart)))
theorem wp_Style_tail (ds : List D) (ah : AH) (q : QE) (x : QX) (h : sp_Style_tail ds ah q x) : w_Style_tail (startD 5 ds) ah { nx := fun _ ah' => q .non ah', rt := q } (fun e _ ah' => x e ah') := by
  obtain ⟨n, b, rs, d, e, A, hq⟩ := h
  have A' := A
  obtain ⟨rfl, hn, h2, hb, ok, t1, t2, hl⟩ := A
  show w_Style_tail [some (.ref n), some d, some e, none, none] ah _ _
  refine insSty hn mne.2.2.1 mne.2.2.2.1 ⟨n, b, rs, d, e, A', fun ah1 x1 => ?_⟩
  have h1 := hq ah1 x1
  cases hr : rangeB d e with
  | false =>
    rw [hr, if_neg (by decide)] at h1
    rw [if_neg (by decide)]
    exact h1
  | true =>
    rw [if_pos rfl]
    intro f s e1 e2
    subst e1 e2
    obtain ⟨f', s', e1, e2, f1, lt⟩ := rangeB_nat hr
    have ef : f = f' := by injection e1 with e1; omega
    have es : s = s' := by injection e2 with e2; omega
    subst ef es
    have hs := hl s rfl
    have r : Rg b f s := ⟨h2, hb, f1, lt, hs⟩
    have hk := keptS_bounds ok r
    simp only [wSeq, wAsg, wLst, wCons, wNil, wCall, wBin, wVar, wC, gt, st, gN, newL, wExpr, wMet, wTst, wIf, wRet, wNext, wTup, wCal, wNot, wAnd, wOr, wAndV, wOrV, wNotV, wIfE, wPar, wPar3, gT, gsC, gsN, wFld, fFld, wCMeth, wSl, wPart, wNoPart, wFor, wIter, fIter, wLc, nos, no, wRng1, wRng2, wChain, wNeg, wStar, wPut, wSetF, wAug, wYes, wEnum, atE, x1 _ _ hn, look_base]
    refine ⟨by simp, b, s, rfl, h2, hb, by omega, fun ah2 x2 => ?_⟩
    simp only [gLen, fSub, fSl, dg_len]
    refine ⟨dl_size (by omega), dl_size (by omega), ?_⟩
    rw [show ((Z.ds b s).length : Int) - (keptS b rs f s : Nat) = (((Z.ds b s).length - keptS b rs f s : Nat) : Int) by omega, cut_drop]
    have h3 := hq ah2 (x1.trans x2)
    rw [hr, if_pos rfl] at h3
    exact h3 f s rfl rfl
/-! ### the law's own -/
def sp__law_kept : DSp := fun ds ah q _ => ∃ (b f s : Nat) (rs : List D), ds = [.int b, .tup rs, .int f, .int s] ∧ Rg b f s ∧ OkR b rs ∧ ∀ ah', Ext ah ah' → q (.int (keptS b rs f s : Nat)) ah'
def w__law_kept : WS := (wRet (wCall sp__law_kept_by [] (wCons (wVar 0) (wCons (wBin fAt (wBin fAt (wVar 1) (wCall sp__law_rule [] (wCons (wVar 0) (wCons (wVar 1) (wCons (wVar 2) (wCons (wVar 3) wNil)))))) (wC (.int 1))) (wCons (wVar 2) (wCons (wVar 3) wNil))))))
theorem wp__law_kept (ds : List D) (ah : AH) (q : QE) (x : QX) (h : sp__law_kept ds ah q x) : w__law_kept (startD 4 ds) ah { nx := fun _ ah' => q .non ah', rt := q } (fun e _ ah' => x e ah') := by
  obtain ⟨b, f, s, rs, rfl, r, o, hq⟩ := h
  show w__law_kept [some (.int b), some (.tup rs), some (.int f), some (.int s)] ah _ _
  refine ⟨b, f, s, rs, rfl, r, o, fun ah1 x1 => ?_⟩
  obtain ⟨cs, k, ek, hk, eo⟩ := o.at_ f s
  simp only [wSeq, wAsg, wLst, wCons, wNil, wCall, wBin, wVar, wC, gt, st, gN, newL, wExpr, wMet, wTst, wIf, wRet, wNext, wTup, wCal, wNot, wAnd, wOr, wAndV, wOrV, wNotV, wIfE, wPar, wPar3, gT, gsC, gsN, wFld, fFld, wCMeth, wSl, wPart, wNoPart, wFor, wIter, fIter, wLc, nos, no, wRng1, wRng2, wChain, wNeg, wStar, wPut, wSetF, wAug, wYes, wEnum, atE, fAt, fIx, atI_nat, ek, at1]
  refine ⟨b, f, s, k, rfl, r, hk, ?_⟩
  have := hq _ x1
  unfold keptS at this
  rw [eo] at this
  exact this
def sp__law_tail : DSp := fun ds ah q _ => ∃ (b f s : Nat) (rs : List D), ds = [.int b, .tup rs, .int f, .int s] ∧ Rg b f s ∧ OkR b rs ∧ ∀ ah', Ext ah ah' → q (.str (dg (tailL b rs f s))) ah'
def w__law_tail : WS := (wSeq (wAsg (wCall sp__law_digits [] (wCons (wVar 0) (wCons (wVar 3) wNil))) (gN 4)) (wRet (wSl (wVar 4) (wPart (wBin fSub (wCal gLen (wCons (wVar 4) wNil)) (wCall sp__law_kept [] (wCons (wVar 0) (wCons (wVar 1) (wCons (wVar 2) (wCons (wVar 3) wNil))))))) wNoPart)))
theorem wp__law_tail (ds : List D) (ah : AH) (q : QE) (x : QX) (h : sp__law_tail ds ah q x) : w__law_tail (startD 5 ds) ah { nx := fun _ ah' => q .non ah', rt := q } (fun e _ ah' => x e ah') := by
  obtain ⟨b, f, s, rs, rfl, r, o, hq⟩ := h
  have hs := r.len
  have hk := keptS_bounds o r
  show w__law_tail [some (.int b), some (.tup rs), some (.int f), some (.int s), none] ah _ _
  refine ⟨b, s, rfl, r.b2, r.b10, hs, ?_⟩
  simp only [wSeq, wAsg, wLst, wCons, wNil, wCall, wBin, wVar, wC, gt, st, gN, newL, wExpr, wMet, wTst, wIf, wRet, wNext, wTup, wCal, wNot, wAnd, wOr, wAndV, wOrV, wNotV, wIfE, wPar, wPar3, gT, gsC, gsN, wFld, fFld, wCMeth, wSl, wPart, wNoPart, wFor, wIter, fIter, wLc, nos, no, wRng1, wRng2, wChain, wNeg, wStar, wPut, wSetF, wAug, wYes, wEnum, atE, gLen, dg_len]
  refine ⟨dl_size (by omega), b, f, s, rs, rfl, r, o, fun ah1 x1 => ?_⟩
  simp only [fSub, fSl, dg_len]
  refine ⟨dl_size (by omega), ?_⟩
  rw [show ((Z.ds b s).length : Int) - (keptS b rs f s : Nat) = (((Z.ds b s).length - keptS b rs f s : Nat) : Int) by omega, cut_drop]
  exact hq _ x1
end Z
namespace Z
open PySem PySem.Spec PyProof.Rows L2
/-! ### repr of data: what is needed for it -/
mutual
def wt : PyData → Nat
  | .none => 4
  | .bool _ => 5
  | .int _ => 1921
  | .str x => 10 * x.length + 2
  | .list xs => wts xs + 3
  | .tuple xs => wts xs + 3
  | .dict _ => 2
def wts : List PyData → Nat
  | [] => 0
  | x :: xs => wt x + 2 + wts xs
end
mutual
def fineP : PyData → Bool
  | .none => true
  | .bool _ => true
  | .int i => decide (i.natAbs.log2 < 1920)
  | .str x => x.cps.toList.all fun c => decide (c < 16 ^ 8)
  | .list xs => finePs xs
  | .tuple xs => finePs xs
  | .dict kvs => kvs.isEmpty
def finePs : List PyData → Bool
  | [] => true
  | x :: xs => fineP x && finePs xs
end
theorem len_add (a b : Str) : (a ++ b).length = a.length + b.length := by
  show (a.cps ++ b.cps).size = _
  rw [Array.size_append]; rfl
theorem join_len (sep : Str) (h : sep.length = 2) : ∀ ts : List Str, (Str.join sep ts).length ≤ (ts.map fun t => t.length + 2).sum
  | [] => by show ("" : Str).length ≤ 0; decide +kernel
  | [x] => by show x.length ≤ _; simp
  | x :: y :: r => by
    have ih := join_len sep h (y :: r)
    show (x ++ sep ++ Str.join sep (y :: r)).length ≤ _
    rw [len_add, len_add, h, List.map_cons, List.sum_cons]
    omega
theorem shown_tuple (ps : List PyData) : (PyData.tuple ps).shown.length ≤ 3 + ((PyData.shownAll ps).map fun t => t.length + 2).sum := by
  show (tupleText _).length ≤ _
  unfold tupleText
  rw [len_add, len_add]
  have h := join_len ", " (by decide +kernel) (PyData.shownAll ps)
  have e1 : ("(" : Str).length = 1 := by decide +kernel
  have e2 : (Str.ofString (if ((PyData.shownAll ps).length == 1) = true then ",)" else ")" : String)).length ≤ 2 := by
    split <;> decide +kernel
  omega
mutual
theorem fine_ok : ∀ (p : PyData), fineP p = true → p.showable = true ∧ p.shown.length ≤ wt p
  | .none, _ => ⟨rfl, by decide +kernel⟩
  | .bool b, _ => ⟨rfl, by cases b <;> decide +kernel⟩
  | .int i, h => ⟨h, int_text_len_1921 (of_decide_eq_true h)⟩
  | .str x, h => ⟨rfl, StrLaws.reprText_len x fun c hc => by
      have h' : (x.cps.toList.all fun c => decide (c < 16 ^ 8)) = true := h
      exact of_decide_eq_true (List.all_eq_true.mp h' c hc)⟩
  | .list xs, h => by
    obtain ⟨h1, h2⟩ := fines_ok xs h
    refine ⟨h1, ?_⟩
    have := shown_list xs
    show _ ≤ wts xs + 3
    omega
  | .tuple xs, h => by
    obtain ⟨h1, h2⟩ := fines_ok xs h
    refine ⟨h1, ?_⟩
    have := shown_tuple xs
    show _ ≤ wts xs + 3
    omega
  | .dict [], _ => ⟨rfl, by decide +kernel⟩
  | .dict (_ :: _), h => by cases h
theorem fines_ok : ∀ (ps : List PyData), finePs ps = true → PyData.showableAll ps = true ∧ ((PyData.shownAll ps).map fun t => t.length + 2).sum ≤ wts ps
  | [], _ => ⟨rfl, by simp [PyData.shownAll, wts]⟩
  | p :: ps, h => by
    unfold finePs at h
    rw [Bool.and_eq_true] at h
    obtain ⟨h1, h2⟩ := fine_ok p h.1
    obtain ⟨h3, h4⟩ := fines_ok ps h.2
    refine ⟨?_, ?_⟩
    · show (p.showable && PyData.showableAll ps) = true
      rw [h1, h3]; rfl
    · show List.sum ((p.shown.length + 2) :: _) ≤ wt p + 2 + wts ps
      rw [List.sum_cons]
      omega
end
theorem pds_depth {f : D → Option PyData} {n : Nat} (h : ∀ d p, f d = some p → p.depth ≤ n) : ∀ {l : List D} {ps : List PyData}, pds f l = some ps → PyData.depthAll ps ≤ n
  | [], _, e => by cases e; exact Nat.zero_le _
  | d :: l, _, e => by
    unfold pds at e
    split at e
    · cases e
      have h1 := h _ _ (by assumption)
      have h2 := pds_depth h (l := l) (by assumption)
      show max _ _ ≤ n
      omega
    · cases e
theorem pd_depth (ah : AH) : ∀ (n : Nat) (d : D) (p : PyData), pd n ah d = some p → p.depth ≤ n := by
  intro n
  induction n with
  | zero =>
    intro d p e
    cases d <;> first | (cases e; exact Nat.le_refl _) | cases e
  | succ n ih =>
    intro d p e
    cases d with
    | non => cases e; exact Nat.zero_le _
    | bl b => cases e; exact Nat.zero_le _
    | int b => cases e; exact Nat.zero_le _
    | str b => cases e; exact Nat.zero_le _
    | ty n => cases e
    | glo n => cases e
    | fn f c q l us => cases e
    | tup l =>
      unfold pd at e
      cases z : pds (pd n ah) l with
      | none => rw [z] at e; cases e
      | some ps => rw [z] at e; cases e; exact Nat.succ_le_succ (pds_depth ih z)
    | frl l =>
      unfold pd at e
      cases z : pds (pd n ah) l with
      | none => rw [z] at e; cases e
      | some ps => rw [z] at e; cases e; exact Nat.succ_le_succ (pds_depth ih z)
    | ref k =>
      unfold pd at e
      split at e
      · rename_i xs q2
        cases z : pds (pd n ah) xs with
        | none => rw [z] at e; cases e
        | some ps => rw [z] at e; cases e; exact Nat.succ_le_succ (pds_depth ih z)
      · cases e
theorem pdz_depth (ah : AH) : ∀ (n : Nat) (d : D) (p : PyData), pdz n ah d = some p → p.depth ≤ n := by
  intro n
  induction n with
  | zero =>
    intro d p e
    cases d <;> first | (cases e; exact Nat.le_refl _) | cases e
  | succ n ih =>
    intro d p e
    cases d with
    | non => cases e; exact Nat.zero_le _
    | bl b => cases e; exact Nat.zero_le _
    | int b => cases e; exact Nat.zero_le _
    | str b => cases e; exact Nat.zero_le _
    | ty n => cases e
    | glo n => cases e
    | fn f c q l us => cases e
    | tup l =>
      unfold pdz at e
      cases z : pds (pdz n ah) l with
      | none => rw [z] at e; cases e
      | some ps => rw [z] at e; cases e; exact Nat.succ_le_succ (pds_depth ih z)
    | frl l =>
      unfold pdz at e
      cases z : pds (pdz n ah) l with
      | none => rw [z] at e; cases e
      | some ps => rw [z] at e; cases e; exact Nat.succ_le_succ (pds_depth ih z)
    | ref k =>
      unfold pdz at e
      split at e
      · rename_i xs q2
        cases z : pds (pdz n ah) xs with
        | none => rw [z] at e; cases e
        | some ps => rw [z] at e; cases e; exact Nat.succ_le_succ (pds_depth ih z)
      · cases e
        exact Nat.succ_le_succ (Nat.zero_le n)
      · cases e
theorem gRepr_fineZ {d : D} {p : PyData} {ah : AH} {q : QE} (h : pdz 20 ah d = some p) (h1 : fineP p = true) (h2 : wt p ≤ 16777216) (hq : q (.str p.shown) ah) : gRepr [d] ah q := by
  obtain ⟨a, b⟩ := fine_ok p h1
  exact gRepr_ofZ h a (Nat.le_trans (pdz_depth ah 20 d p h) (by decide)) (size_line (Nat.le_trans b h2)) hq
theorem gRepr_fine {d : D} {p : PyData} {ah : AH} {q : QE} (h : pd 20 ah d = some p) (h1 : fineP p = true) (h2 : wt p ≤ 16777216) (hq : q (.str p.shown) ah) : gRepr [d] ah q := by
  obtain ⟨a, b⟩ := fine_ok p h1
  exact gRepr_of h a (Nat.le_trans (pd_depth ah 20 d p h) (by decide)) (size_line (Nat.le_trans b h2)) hq
/-- repr of a text -/
theorem repr_str {z : Str} {ah : AH} {q : QE} (h : ∀ c ∈ z.cps.toList, c < 16 ^ 8) (hl : z.length ≤ 1600000) (hq : q (.str (PyData.shown (.str z))) ah) : gRepr [.str z] ah q := by
  refine gRepr_fine (p := .str z) rfl ?_ ?_ hq
  · exact List.all_eq_true.mpr fun c hc => decide_eq_true (h c hc)
  · show 10 * z.length + 2 ≤ _
    omega
theorem repr_int {i : Int} {ah : AH} {q : QE} (h : i.natAbs < 2 ^ 1900) (hq : q (.str (PyData.shown (.int i))) ah) : gRepr [.int i] ah q :=
  gRepr_fine (p := .int i) rfl (decide_eq_true (Nat.lt_of_lt_of_le (log2_nat (k := 1900) (by decide) h) (by decide))) (by show 1921 ≤ _; decide) hq
theorem repr_bl {i : Bool} {ah : AH} {q : QE} (hq : q (.str (PyData.shown (.bool i))) ah) : gRepr [.bl i] ah q :=
  gRepr_fine (p := .bool i) rfl rfl (by show 5 ≤ _; decide) hq
end Z
namespace Z
open PySem PySem.Spec PyProof.Rows L2
/-! ### manners, items -/
def isManner (d : D) : Bool := match d with
  | .str z => decide (z = "full") || decide (z = "running")
  | _ => false
def sp_need_manner : DSp := fun ds ah q x => ∃ d, ds = [d] ∧ (tyD ah d).isSome = true ∧ (if isManner d = true then q .non ah else x ("BadManner", [("value", d)]) ah)
def w_need_manner : WS := (wIf ((wOr (wNot (wTst (wCal gIsi (wCons (wVar 0) (wCons (wC (.ty "str")) wNil))))) (wTst (wBin (fIn true) (wVar 0) (wC (.tup ((["full", "running"] : List Str).map D.str))))))) (wRaise "BadManner" ["value"] (wCons (wVar 0) wNil)) wNext)
theorem in_two {z a b : Str} : ([a, b].map D.str).any (fun y => eqF y (.str z)) = (decide (z = a) || decide (z = b)) := by
  simp only [List.map_cons, List.map_nil, List.any_cons, List.any_nil, Bool.or_false, eqF]
  rw [Bool.eq_iff_iff]
  simp only [Bool.or_eq_true, beq_iff_eq, decide_eq_true_eq]
  exact ⟨fun h => h.imp Eq.symm Eq.symm, fun h => h.imp Eq.symm Eq.symm⟩
theorem wp_need_manner (ds : List D) (ah : AH) (q : QE) (x : QX) (h : sp_need_manner ds ah q x) : w_need_manner (startD 1 ds) ah { nx := fun _ ah' => q .non ah', rt := q } (fun e _ ah' => x e ah') := by
  obtain ⟨d, rfl, h1, hq⟩ := h
  show w_need_manner [some d] ah _ _
  unfold w_need_manner
  obtain ⟨t, ht⟩ := Option.isSome_iff_exists.mp h1
  simp only [wSeq, wAsg, wLst, wCons, wNil, wCall, wBin, wVar, wC, gt, st, gN, newL, wExpr, wMet, wTst, wIf, wRet, wNext, wTup, wCal, wNot, wAnd, wOr, wAndV, wOrV, wNotV, wIfE, wPar, wPar3, gT, gsC, gsN, wFld, fFld, wCMeth, wSl, wPart, wNoPart, wFor, wIter, fIter, wLc, nos, no, wRng1, wRng2, wChain, wNeg, wStar, wPut, wSetF, wAug, wYes, wEnum, atE]
  refine gIsi_of ht (by decide) ?_
  by_cases hd : ∃ z, d = .str z
  · obtain ⟨z, rfl⟩ := hd
    cases ht
    rw [ts]
    refine ite_f ⟨rfl, rfl, ?_⟩
    rw [in_two]
    have e : isManner (.str z) = (decide (z = "full") || decide (z = "running")) := rfl
    rw [← e, Bool.true_bne]
    cases hm : isManner (.str z) with
    | true => rw [hm, if_pos rfl] at hq; exact ite_f hq
    | false => rw [hm, if_neg (by decide)] at hq; exact ite_t ⟨rfl, by decide, hq⟩
  · rw [ty_str ht (fun z e => hd ⟨z, e⟩)]
    have : isManner d = false := by
      unfold isManner
      split
      · exact (hd ⟨_, rfl⟩).elim
      · rfl
    rw [this, if_neg (by decide)] at hq
    refine ite_t ?_
    first
      | exact ⟨rfl, by decide, hq⟩
      | exact ite_t ⟨rfl, by decide, hq⟩
/-! items -/
def pairB (d e : D) : Bool := match d, e with
  | .int i, .int j => decide (1 ≤ i) && (decide (1 ≤ j) && decide (i < j))
  | _, _ => false
def itemB (d : D) : Bool := isNum d || (match d with
  | .tup [a, b] => pairB a b
  | _ => false)
def sp_is_item : DSp := fun ds ah q _ => ∃ d, ds = [d] ∧ okD ah d = true ∧ q (.bl (itemB d)) ah
def w_is_item : WS := (wSeq (wIf (wTst (wCall sp_is_number [] (wCons (wVar 0) wNil))) (wRet (wC (.bl true))) wNext) (wSeq (wIf ((wOr (wNot (wTst (wCal gIsi (wCons (wVar 0) (wCons (wC (.ty "tuple")) wNil))))) (wTst (wBin (fEq true) (wCal gLen (wCons (wVar 0) wNil)) (wC (.int 2)))))) (wRet (wC (.bl false))) wNext) (wRet ((wAndV (wCall sp_is_number [] (wCons (wBin fAt (wVar 0) (wC (.int 0))) wNil)) (wAndV (wCall sp_is_number [] (wCons (wBin fAt (wVar 0) (wC (.int 1))) wNil)) (wBin fLt (wBin fAt (wVar 0) (wC (.int 0))) (wBin fAt (wVar 0) (wC (.int 1))))))))))
theorem wp_is_item (ds : List D) (ah : AH) (q : QE) (x : QX) (h : sp_is_item ds ah q x) : w_is_item (startD 1 ds) ah { nx := fun _ ah' => q .non ah', rt := q } (fun e _ ah' => x e ah') := by
  obtain ⟨d, rfl, ok, hq⟩ := h
  show w_is_item [some d] ah _ _
  refine ⟨d, rfl, okD_ty ok, ?_⟩
  cases hn : isNum d with
  | true =>
    refine ite_t ?_
    unfold itemB at hq
    rw [hn] at hq
    exact hq
  | false =>
    refine ite_f ?_
    unfold itemB at hq
    rw [hn, Bool.false_or] at hq
    obtain ⟨t, ht⟩ := Option.isSome_iff_exists.mp (okD_ty ok)
    simp only [wSeq, wAsg, wLst, wCons, wNil, wCall, wBin, wVar, wC, gt, st, gN, newL, wExpr, wMet, wTst, wIf, wRet, wNext, wTup, wCal, wNot, wAnd, wOr, wAndV, wOrV, wNotV, wIfE, wPar, wPar3, gT, gsC, gsN, wFld, fFld, wCMeth, wSl, wPart, wNoPart, wFor, wIter, fIter, wLc, nos, no, wRng1, wRng2, wChain, wNeg, wStar, wPut, wSetF, wAug, wYes, wEnum, atE]
    refine gIsi_of ht (by decide) ?_
    by_cases hd : ∃ l, d = .tup l
    · obtain ⟨l, rfl⟩ := hd
      cases ht
      rw [tt]
      have okl := okDs_mem (by unfold okD at ok; exact ok)
      simp only [Bool.not_true, Bool.false_eq_true, if_false, gLen, fEq]
      by_cases hl : l.length = 2
      · rw [decide_eq_true (by omega)]
        obtain ⟨a, b, rfl⟩ : ∃ a b, l = [a, b] := by
          match l, hl with
          | [a, b], _ => exact ⟨a, b, rfl⟩
        refine ite_f ?_
        simp only [fAt, fIx, at0, at1]
        refine ⟨a, rfl, okD_ty (okl a (by simp)), ?_⟩
        have hq' : q (.bl (pairB a b)) ah := hq
        cases ha : isNum a with
        | false =>
          have : pairB a b = false := by
            unfold pairB
            split
            · have ha' : decide _ = false := ha
              rw [ha']; rfl
            · rfl
          rw [this] at hq'
          exact hq'
        | true =>
          refine ⟨b, rfl, okD_ty (okl b (by simp)), ?_⟩
          obtain ⟨i, rfl, hi⟩ := isNum_int ha
          cases hb : isNum b with
          | false =>
            have : pairB (.int i) b = false := by
              unfold pairB
              split
              · have hb' : decide _ = false := hb
                rw [hb']; simp
              · rfl
            rw [this] at hq'
            exact hq'
          | true =>
            obtain ⟨j, rfl, hj⟩ := isNum_int hb
            have e : pairB (.int i) (.int j) = decide (i < j) := by
              show (decide _ && (decide _ && _)) = _
              rw [decide_eq_true hi, decide_eq_true hj]; rfl
            rw [e] at hq'
            exact hq'
      · rw [decide_eq_false (by omega)]
        refine ite_t ?_
        split at hq
        · rename_i e; cases e; simp at hl
        · exact hq
    · rw [ty_tup ht (fun l e => hd ⟨l, e⟩)]
      refine ite_t ?_
      split at hq
      · exact (hd ⟨_, rfl⟩).elim
      · exact hq
def endsD (d : D) : D := match d with
  | .tup l => .tup l
  | d => .tup [d, d]
def sp_ends_of_item : DSp := fun ds ah q _ => ∃ d, ds = [d] ∧ (tyD ah d).isSome = true ∧ q (endsD d) ah
def w_ends_of_item : WS := (wRet (wIfE (wTst (wCal gIsi (wCons (wVar 0) (wCons (wC (.ty "tuple")) wNil)))) (wVar 0) (wTup (wCons (wVar 0) (wCons (wVar 0) wNil)))))
def sp__law_ends : DSp := sp_ends_of_item
def w__law_ends : WS := (wRet (wIfE (wTst (wCal gIsi (wCons (wVar 0) (wCons (wC (.ty "tuple")) wNil)))) (wVar 0) (wTup (wCons (wVar 0) (wCons (wVar 0) wNil)))))
theorem wp_ends_of_item (ds : List D) (ah : AH) (q : QE) (x : QX) (h : sp_ends_of_item ds ah q x) : w_ends_of_item (startD 1 ds) ah { nx := fun _ ah' => q .non ah', rt := q } (fun e _ ah' => x e ah') := by
  obtain ⟨d, rfl, h1, hq⟩ := h
  show w_ends_of_item [some d] ah _ _
  unfold w_ends_of_item
  obtain ⟨t, ht⟩ := Option.isSome_iff_exists.mp h1
  simp only [wSeq, wAsg, wLst, wCons, wNil, wCall, wBin, wVar, wC, gt, st, gN, newL, wExpr, wMet, wTst, wIf, wRet, wNext, wTup, wCal, wNot, wAnd, wOr, wAndV, wOrV, wNotV, wIfE, wPar, wPar3, gT, gsC, gsN, wFld, fFld, wCMeth, wSl, wPart, wNoPart, wFor, wIter, fIter, wLc, nos, no, wRng1, wRng2, wChain, wNeg, wStar, wPut, wSetF, wAug, wYes, wEnum, atE]
  refine gIsi_of ht (by decide) ?_
  by_cases hd : ∃ l, d = .tup l
  · obtain ⟨l, rfl⟩ := hd
    cases ht
    rw [tt]
    exact ite_t hq
  · rw [ty_tup ht (fun l e => hd ⟨l, e⟩)]
    have : endsD d = .tup [d, d] := by
      unfold endsD
      split
      · exact (hd ⟨_, rfl⟩).elim
      · rfl
    rw [this] at hq
    exact ite_f ⟨show 2 ≤ 16777216 by decide, hq⟩
theorem wp__law_ends (ds : List D) (ah : AH) (q : QE) (x : QX) (h : sp__law_ends ds ah q x) : w__law_ends (startD 1 ds) ah { nx := fun _ ah' => q .non ah', rt := q } (fun e _ ah' => x e ah') := wp_ends_of_item ds ah q x h
/-! ### entries -/
def firstI (d : D) : Int := match d with
  | .int i => i
  | .tup (.int i :: _) => i
  | _ => 0
def lastI (d : D) : Int := match d with
  | .int i => i
  | .tup [_, .int j] => j
  | _ => 0
def lateB (p : Option Int) (d : D) : Bool := match p with
  | some e => decide (firstI d ≤ e)
  | none => false
/-- the first item that cannot stand there -/
def badAt : Nat → Option Int → List D → Option Nat
  | _, _, [] => none
  | k, p, d :: l => if (!itemB d || lateB p d) = true then some k else badAt (k + 1) (some (lastI d)) l
def entryErr (d : D) : Option D := match d with
  | .tup l => if 1 ≤ l.length ∧ l.length ≤ 50 then (badAt 0 none l).map (fun k => .int (k : Nat)) else some .non
  | _ => some .non
theorem item_ends {d : D} (h : itemB d = true) : ∃ i j : Int, endsD d = .tup [.int i, .int j] ∧ firstI d = i ∧ lastI d = j := by
  unfold itemB at h
  rw [Bool.or_eq_true] at h
  rcases h with h | h
  · obtain ⟨i, rfl, _⟩ := isNum_int h
    exact ⟨i, i, rfl, rfl, rfl⟩
  · split at h
    · rename_i a b
      unfold pairB at h
      split at h
      · exact ⟨_, _, rfl, rfl, rfl⟩
      · cases h
    · cases h
def sp_need_entry : DSp := fun ds ah q x => ∃ d, ds = [d] ∧ okD ah d = true ∧ (match entryErr d with | some p => x ("BadEntry", [("place", p)]) ah | none => q d ah)
def w_need_entry : WS := (wSeq (wIf ((wOr (wNot (wTst (wCal gIsi (wCons (wVar 0) (wCons (wC (.ty "tuple")) wNil))))) (wNot (wTst (wChain fLe fLe (wC (.int 1)) (wCal gLen (wCons (wVar 0) wNil)) (wC (.int 50))))))) (wRaise "BadEntry" ["place"] (wCons (wC .non) wNil)) wNext) (wSeq (wFor (wEnum (wCons (wVar 0) wNil)) (gT 2 (gsC (gN 1) (gsC (gN 2) gsN))) (wSeq (wIf (wNot (wTst (wCall sp_is_item [] (wCons (wVar 2) wNil)))) (wRaise "BadEntry" ["place"] (wCons (wVar 1) wNil)) wNext) (wIf ((wAnd (wTst (wBin fGt (wVar 1) (wC (.int 0)))) (wTst (wBin fLe (wBin fAt (wCall sp_ends_of_item [] (wCons (wVar 2) wNil)) (wC (.int 0))) (wBin fAt (wCall sp_ends_of_item [] (wCons (wBin fAt (wVar 0) (wBin fSub (wVar 1) (wC (.int 1)))) wNil)) (wC (.int 1))))))) (wRaise "BadEntry" ["place"] (wCons (wVar 1) wNil)) wNext))) (wRet (wVar 0))))
abbrev w_ent1 : WS := (wSeq (wIf (wNot (wTst (wCall sp_is_item [] (wCons (wVar 2) wNil)))) (wRaise "BadEntry" ["place"] (wCons (wVar 1) wNil)) wNext) (wIf (wAnd (wTst (wBin fGt (wVar 1) (wC (.int 0)))) (wTst (wBin fLe (wBin fAt (wCall sp_ends_of_item [] (wCons (wVar 2) wNil)) (wC (.int 0))) (wBin fAt (wCall sp_ends_of_item [] (wCons (wBin fAt (wVar 0) (wBin fSub (wVar 1) (wC (.int 1)))) wNil)) (wC (.int 1)))))) (wRaise "BadEntry" ["place"] (wCons (wVar 1) wNil)) wNext))
theorem entry_loop : ∀ (l done : List D) (o1 o2 : Option D) (ah : AH) (dn : DEnds) (x : QXS), okDs ah (done ++ l) = true → (∀ d ∈ done, itemB d = true) → (done ++ l).length ≤ 50 →
    (match badAt done.length (done.getLast?.map lastI) l with | some k => ∀ env, x ("BadEntry", [("place", .int (k : Nat))]) env ah | none => ∀ o1 o2, dn.nx [some (.tup (done ++ l)), o1, o2] ah) →
    forGo (fun _ => True) (gT 2 (gsC (gN 1) (gsC (gN 2) gsN))) w_ent1 dn x (numbered done.length l) [some (.tup (done ++ l)), o1, o2] ah
  | [], done, o1, o2, ah, dn, x, _, _, _, h => ⟨trivial, h o1 o2⟩
  | d :: l, done, o1, o2, ah, dn, x, ok, hit, hl, h => by
    have okd : okD ah d = true := okDs_mem ok d (by simp)
    refine ⟨trivial, rfl, d, rfl, okd, ?_⟩
    unfold badAt at h
    cases hd : itemB d with
    | false =>
      rw [hd] at h
      simp only [Bool.not_false, Bool.true_or, if_true] at h
      exact ite_t ⟨rfl, by decide, h _⟩
    | true =>
      rw [hd] at h
      simp only [Bool.not_true, Bool.false_or] at h
      refine ite_f ?_
      have next : (lateB (done.getLast?.map lastI) d = false) → (match badAt (done ++ [d]).length ((done ++ [d]).getLast?.map lastI) l with | some k => ∀ env, x ("BadEntry", [("place", .int (k : Nat))]) env ah | none => ∀ o1 o2, dn.nx [some (.tup (done ++ [d] ++ l)), o1, o2] ah) := fun hb => by
        rw [hb, if_neg (by decide)] at h
        rw [List.length_append, List.getLast?_append, List.append_assoc]
        exact h
      have go : ∀ o1 o2, (lateB (done.getLast?.map lastI) d = false) → forGo (fun _ => True) (gT 2 (gsC (gN 1) (gsC (gN 2) gsN))) w_ent1 dn x (numbered (done.length + 1) l) [some (.tup (done ++ d :: l)), o1, o2] ah := fun o1 o2 hb => by
        have ih := entry_loop l (done ++ [d]) o1 o2 ah dn x (by rw [List.append_assoc]; exact ok) (fun y hy => by
          rcases List.mem_append.mp hy with z | z
          · exact hit y z
          · rw [List.mem_singleton.mp z]; exact hd) (by rw [List.append_assoc]; exact hl) (next hb)
        rw [List.length_append, List.append_assoc] at ih
        exact ih
      simp only [wSeq, wAsg, wLst, wCons, wNil, wCall, wBin, wVar, wC, gt, st, gN, newL, wExpr, wMet, wTst, wIf, wRet, wNext, wTup, wCal, wNot, wAnd, wOr, wAndV, wOrV, wNotV, wIfE, wPar, wPar3, gT, gsC, gsN, wFld, fFld, wCMeth, wSl, wPart, wNoPart, wFor, wIter, fIter, wLc, nos, no, wRng1, wRng2, wChain, wNeg, wStar, wPut, wSetF, wAug, wYes, wEnum, atE, fGt]
      rcases List.eq_nil_or_concat done with e | ⟨d0, y, e⟩
      · subst e
        rw [decide_eq_false (by simp)]
        refine ite_f (ite_f ?_)
        exact go _ _ rfl
      · rw [List.concat_eq_append] at e
        subst e
        rw [decide_eq_true (by simp)]
        obtain ⟨i, j, e1, e2, e3⟩ := item_ends hd
        obtain ⟨i', j', g1, g2, g3⟩ := item_ends (hit y (by simp))
        refine ite_t ⟨d, rfl, okD_ty okd, ?_⟩
        rw [e1]
        simp only [fAt, fIx, at0, fSub]
        have ey : atI (d0 ++ [y] ++ d :: l) (((d0 ++ [y]).length : Int) - 1) = some y := by
          rw [show ((d0 ++ [y]).length : Int) - 1 = ((d0.length : Nat) : Int) by simp, atI_nat]
          simp
        rw [ey]
        refine ⟨y, rfl, okD_ty (okDs_mem ok y (by simp)), ?_⟩
        rw [g1]
        simp only [at1, fLe]
        have el : lateB ((d0 ++ [y]).getLast?.map lastI) d = decide (i ≤ j') := by
          simp [lateB, e2, g3]
        cases hlb : decide (i ≤ j') with
        | true =>
          rw [el, hlb, if_pos rfl] at h
          exact ite_t ⟨rfl, by decide, h _⟩
        | false => exact ite_f (go _ _ (by rw [el, hlb]))
theorem wp_need_entry (ds : List D) (ah : AH) (q : QE) (x : QX) (h : sp_need_entry ds ah q x) : w_need_entry (startD 3 ds) ah { nx := fun _ ah' => q .non ah', rt := q } (fun e _ ah' => x e ah') := by
  obtain ⟨d, rfl, ok, hq⟩ := h
  show w_need_entry [some d, none, none] ah _ _
  obtain ⟨t, ht⟩ := Option.isSome_iff_exists.mp (okD_ty ok)
  unfold w_need_entry
  simp only [wSeq, wIf, wOr, wNot, wTst, wCal, wCons, wVar, wC, wNil, gt, wChain]
  refine gIsi_of ht (by decide) ?_
  by_cases hd : ∃ l, d = .tup l
  · obtain ⟨l, rfl⟩ := hd
    cases ht
    rw [tt]
    have okl : okDs ah l = true := by unfold okD at ok; exact ok
    refine ite_f ?_
    simp only [gLen, fLe]
    by_cases h1 : 1 ≤ l.length
    · rw [decide_eq_true (by omega : (1 : Int) ≤ l.length)]
      simp only
      by_cases h2 : l.length ≤ 50
      · rw [decide_eq_true (by omega : (l.length : Int) ≤ 50)]
        refine ite_f ?_
        have e : entryErr (.tup l) = (badAt 0 none l).map (fun k => .int (k : Nat)) := by
          show (if _ then _ else _) = _
          rw [if_pos ⟨h1, h2⟩]
        rw [e] at hq
        refine entry_loop l [] none none ah _ _ okl (by simp) h2 ?_
        show (match badAt 0 none l with | some k => _ | none => _)
        cases hb : badAt 0 none l with
        | none => rw [hb] at hq; intro o1 o2; exact hq
        | some k => rw [hb] at hq; intro env; exact hq
      · rw [decide_eq_false (by omega : ¬ (l.length : Int) ≤ 50)]
        have e : entryErr (.tup l) = some .non := by
          show (if _ then _ else _) = _
          rw [if_neg (by omega)]
        rw [e] at hq
        exact ite_t ⟨rfl, by decide, hq⟩
    · rw [decide_eq_false (by omega : ¬ (1 : Int) ≤ l.length)]
      have e : entryErr (.tup l) = some .non := by
        show (if _ then _ else _) = _
        rw [if_neg (by omega)]
      rw [e] at hq
      exact ite_t ⟨rfl, by decide, hq⟩
  · rw [ty_tup ht (fun l e => hd ⟨l, e⟩)]
    have : entryErr d = some .non := by
      unfold entryErr
      split
      · exact (hd ⟨_, rfl⟩).elim
      · rfl
    rw [this] at hq
    refine ite_t ?_
    first
      | exact ⟨rfl, by decide, hq⟩
      | exact ite_t ⟨rfl, by decide, hq⟩
end Z
namespace Z
open PySem PySem.Spec PyProof.Rows L2
/-! ### calls of a style's methods with right ranges -/
theorem styArg {n b f s : Nat} {rs : List D} {ah : AH} (r : Rg b f s) (o : OkR b rs) (hn : ah[n]? = some (styO (.int b) rs)) : StyArg ah [.ref n, .int f, .int s] n b rs (.int f) (.int s) :=
  ⟨rfl, hn, r.b2, r.b10, o, rfl, rfl, fun s' e => by
    have : s = s' := by injection e with e; omega
    subst this; exact r.len⟩
theorem tell_right {v : Nat → Nat → D} {b f s : Nat} {ah : AH} {q : QE} {x : QX} (r : Rg b f s) (h : ∀ ah', Ext ah ah' → q (v f s) ah') : tellR v (.int f) (.int s) ah q x := fun ah' x1 => by
  rw [rangeB_of r.f1 r.lt, if_pos rfl]
  intro f' s' e1 e2
  have ef : f = f' := by injection e1 with e1; omega
  have es : s = s' := by injection e2 with e2; omega
  subst ef es
  exact h _ x1
theorem tail_call {n b f s : Nat} {rs : List D} {ah : AH} {q : QE} {x : QX} (r : Rg b f s) (o : OkR b rs) (hn : ah[n]? = some (styO (.int b) rs)) (h : ∀ ah', Ext ah ah' → q (.str (dg (tailL b rs f s))) ah') : sp_Style_tail [.ref n, .int f, .int s] ah q x :=
  ⟨n, b, rs, _, _, styArg r o hn, tell_right r h⟩
theorem kept_call {n b f s : Nat} {rs : List D} {ah : AH} {q : QE} {x : QX} (r : Rg b f s) (o : OkR b rs) (hn : ah[n]? = some (styO (.int b) rs)) (h : ∀ ah', Ext ah ah' → q (.int (keptS b rs f s : Nat)) ah') : sp_Style_kept [.ref n, .int f, .int s] ah q x :=
  ⟨n, b, rs, _, _, styArg r o hn, tell_right r h⟩
theorem rule_call {n b f s : Nat} {rs : List D} {ah : AH} {q : QE} {x : QX} (r : Rg b f s) (o : OkR b rs) (hn : ah[n]? = some (styO (.int b) rs)) (h : ∀ ah', Ext ah ah' → q (.int (ruleN b rs f s : Nat)) ah') : sp_Style_rule_of [.ref n, .int f, .int s] ah q x :=
  ⟨n, b, rs, _, _, styArg r o hn, tell_right r h⟩
/-! ### right entries, by first and last numbers -/
def itD (p : Nat × Nat) : D := if p.1 = p.2 then .int (p.1 : Nat) else .tup [.int (p.1 : Nat), .int (p.2 : Nat)]
def Asc (b : Nat) : Nat → List (Nat × Nat) → Prop
  | _, [] => True
  | p, (a, c) :: l => p < a ∧ a ≤ c ∧ (Z.ds b c).length ≤ 10000 ∧ Asc b c l
theorem asc_le {b : Nat} : ∀ {l : List (Nat × Nat)} {p : Nat}, Asc b p l → ∀ q ∈ l, q.1 ≤ q.2
  | [], _, _, q, h => by simp at h
  | (a, c) :: l, p, ⟨g1, g2, g3, g4⟩, q, h => by
    rcases List.mem_cons.mp h with rfl | h
    · exact g2
    · exact asc_le g4 q h
theorem itD_ok {a c : Nat} (h1 : 1 ≤ a) (h2 : a ≤ c) : itemB (itD (a, c)) = true ∧ firstI (itD (a, c)) = a ∧ lastI (itD (a, c)) = c ∧ endsD (itD (a, c)) = .tup [.int a, .int c] := by
  unfold itD
  dsimp only
  by_cases e : a = c
  · subst e
    rw [if_pos rfl]
    refine ⟨?_, rfl, rfl, rfl⟩
    unfold itemB isNum
    dsimp only
    rw [decide_eq_true (by omega)]; rfl
  · rw [if_neg e]
    refine ⟨?_, rfl, rfl, rfl⟩
    show (isNum (.tup [.int (a : Int), .int (c : Int)]) || pairB (.int a) (.int c)) = true
    have : pairB (.int (a : Int)) (.int (c : Int)) = true := by
      show (decide _ && (decide _ && decide _)) = true
      simp only [Bool.and_eq_true, decide_eq_true_eq]
      omega
    rw [this, Bool.or_true]
theorem asc_bad {b : Nat} : ∀ (l : List (Nat × Nat)) (p : Nat) (k : Nat) (o : Option Int), Asc b p l → (o = none ∨ o = some (p : Int)) → badAt k o (l.map itD) = none
  | [], _, _, _, _, _ => rfl
  | (a, c) :: l, p, k, o, ⟨h1, h2, h3, h4⟩, ho => by
    obtain ⟨g1, g2, g3, g4⟩ := itD_ok (a := a) (c := c) (by omega) h2
    rw [List.map_cons]
    unfold badAt
    have : lateB o (itD (a, c)) = false := by
      rcases ho with rfl | rfl
      · rfl
      · unfold lateB
        dsimp only
        rw [g2]
        exact decide_eq_false (by omega)
    rw [g1, this, if_neg (by decide), g3]
    exact asc_bad l c (k + 1) _ h4 (.inr rfl)
theorem asc_entry {b : Nat} {l : List (Nat × Nat)} (h : Asc b 0 l) (h1 : 1 ≤ l.length) (h2 : l.length ≤ 50) : entryErr (.tup (l.map itD)) = none := by
  show (if _ then _ else _) = none
  rw [List.length_map, if_pos ⟨h1, h2⟩, asc_bad l 0 0 none h (.inl rfl)]; rfl
theorem itD_okD {ah : AH} (p : Nat × Nat) : okD ah (itD p) = true := by
  unfold itD
  split
  · rfl
  · simp only [okD, okDs, Bool.and_self]
theorem items_okD {ah : AH} (l : List (Nat × Nat)) : okD ah (.tup (l.map itD)) = true := by
  unfold okD
  exact okDs_all fun d hd => by
    obtain ⟨p, _, rfl⟩ := List.mem_map.mp hd
    exact itD_okD p
/-! ### the text of an entry -/
def headL (b : Nat) (rs : List D) (full : Bool) (p a : Nat) : List Nat := if full = true ∨ p = 0 then Z.ds b a else tailL b rs p a
def partS (b : Nat) (rs : List D) (full : Bool) (p a c : Nat) : Str := if a = c then dg (headL b rs full p a) else dg (headL b rs full p a) ++ "-" ++ dg (tailL b rs a c)
def partsS (b : Nat) (rs : List D) (full : Bool) : Nat → List (Nat × Nat) → List Str
  | _, [] => []
  | p, (a, c) :: l => partS b rs full p a c :: partsS b rs full c l
def entS (b : Nat) (rs : List D) (full : Bool) (l : List (Nat × Nat)) : Str := Txt.join ", " (partsS b rs full 0 l)
theorem tail_len {b f s : Nat} {rs : List D} : (tailL b rs f s).length ≤ (Z.ds b s).length := by unfold tailL; simp
theorem head_len {b p a : Nat} {rs : List D} {full : Bool} : (headL b rs full p a).length ≤ (Z.ds b a).length := by
  unfold headL
  split
  · exact Nat.le_refl _
  · exact tail_len
theorem partS_len {b p a c : Nat} {rs : List D} {full : Bool} (h2 : 2 ≤ b) (h : a ≤ c) (hl : (Z.ds b c).length ≤ 10000) : (partS b rs full p a c).length ≤ 20001 := by
  have h1 : (headL b rs full p a).length ≤ 10000 := Nat.le_trans head_len (Nat.le_trans (ds_mono h2 h) hl)
  have h3 : (tailL b rs a c).length ≤ 10000 := Nat.le_trans tail_len hl
  have e : ("-" : Str).length = 1 := by decide +kernel
  unfold partS
  split
  · rw [dg_len]; omega
  · rw [len_add, len_add, dg_len, dg_len, e]; omega
theorem partsS_sum {b : Nat} {rs : List D} {full : Bool} (h2 : 2 ≤ b) : ∀ (l : List (Nat × Nat)) (p : Nat), Asc b p l → ((partsS b rs full p l).map (·.length)).sum ≤ 20001 * l.length ∧ (partsS b rs full p l).length = l.length
  | [], _, _ => by simp [partsS]
  | (a, c) :: l, p, ⟨g1, g2, g3, g4⟩ => by
    obtain ⟨i1, i2⟩ := partsS_sum (rs := rs) (full := full) h2 l c g4
    have := partS_len (p := p) (rs := rs) (full := full) h2 g2 g3
    unfold partsS
    simp only [List.map_cons, List.sum_cons, List.length_cons]
    refine ⟨?_, by rw [i2]⟩
    omega
structure AccS (ah0 : AH) (n : Nat) (l : List Str) (ah : AH) : Prop where
  ext : Ext ah0 ah
  new : ah0.length ≤ n
  at_ : ah[n]? = some (.lst (l.map D.str))
theorem AccS.step {ah0 ah ah' : AH} {n : Nat} {l : List Str} (h : AccS ah0 n l ah) (e : Ext ah ah') : AccS ah0 n l ah' := ⟨h.ext.trans e, h.new, e _ _ h.at_⟩
theorem AccS.put {ah0 ah : AH} {n : Nat} {l m : List Str} (h : AccS ah0 n l ah) : AccS ah0 n m (ah.set n (.lst (m.map D.str))) := by
  have hlt : n < ah.length := (List.getElem?_eq_some_iff.mp h.at_).1
  refine ⟨fun k o e => ?_, h.new, by rw [List.getElem?_set_self hlt]⟩
  have : k < ah0.length := (List.getElem?_eq_some_iff.mp e).1
  rw [List.getElem?_set_ne (by have := h.new; omega)]
  exact h.ext k o e
def sp_text_in : DSp := fun ds ah q _ => ∃ (n b : Nat) (rs : List D) (m : Str) (l : List (Nat × Nat)), ds = [.ref n, .str m, .tup (l.map itD)] ∧ ah[n]? = some (styO (.int b) rs) ∧ OkR b rs ∧ 2 ≤ b ∧ b ≤ 10 ∧ isManner (.str m) = true ∧ Asc b 0 l ∧ l.length ≤ 50 ∧
  ∀ ah', Ext ah ah' → q (.str (entS b rs (decide (m = "full")) l)) ah'
def w_text_in : WS := (wSeq (wPar 3 4 (wCons (wLst wNil) (wCons (wC .non) wNil))) (wSeq (wFor (wIter (wVar 2)) (gN 5) (wSeq (wAsg (wCall sp_ends_of_item [] (wCons (wVar 5) wNil)) (gT 2 (gsC (gN 6) (gsC (gN 7) gsN)))) (wSeq (wAsg ((wOrV (wBin (fIs false) (wVar 4) (wC .non)) (wBin (fEq false) (wVar 1) (wC (.str "full"))))) (gN 8)) (wSeq (wAsg (wIfE (wTst (wVar 8)) (wCall sp_figures_of [] (wCons (wFld ["Style"] "own_base" (wVar 0)) (wCons (wVar 6) wNil))) (wMeth "Style" "tail" sp_Style_tail (wVar 0) (wCons (wVar 4) (wCons (wVar 6) wNil)))) (gN 9)) (wSeq (wExpr (wMet isLst fAppend (wVar 3) (wCons (wIfE (wTst (wBin (fEq false) (wVar 6) (wVar 7))) (wVar 9) (wBin fAdd (wBin fAdd (wVar 9) (wC (.str "-"))) (wMeth "Style" "tail" sp_Style_tail (wVar 0) (wCons (wVar 6) (wCons (wVar 7) wNil))))) wNil))) (wAsg (wVar 7) (gN 4))))))) (wRet (wMet isStr fJoin (wC (.str ", ")) (wCons (wVar 3) wNil)))))
def w_ti4 : WS := (wSeq (wExpr (wMet isLst fAppend (wVar 3) (wCons (wIfE (wTst (wBin (fEq false) (wVar 6) (wVar 7))) (wVar 9) (wBin fAdd (wBin fAdd (wVar 9) (wC (.str "-"))) (wMeth "Style" "tail" sp_Style_tail (wVar 0) (wCons (wVar 6) (wCons (wVar 7) wNil))))) wNil))) (wAsg (wVar 7) (gN 4)))
def w_ti1 : WS := (wSeq (wAsg (wCall sp_ends_of_item [] (wCons (wVar 5) wNil)) (gT 2 (gsC (gN 6) (gsC (gN 7) gsN)))) (wSeq (wAsg (wOrV (wBin (fIs false) (wVar 4) (wC .non)) (wBin (fEq false) (wVar 1) (wC (.str "full")))) (gN 8)) (wSeq (wAsg (wIfE (wTst (wVar 8)) (wCall sp_figures_of [] (wCons (wFld ["Style"] "own_base" (wVar 0)) (wCons (wVar 6) wNil))) (wMeth "Style" "tail" sp_Style_tail (wVar 0) (wCons (wVar 4) (wCons (wVar 6) wNil)))) (gN 9)) w_ti4)))
def beforeD (p : Nat) : D := if p = 0 then .non else .int (p : Nat)
theorem fIs_before {p : Nat} {ah : AH} {q : QE} (h : q (.bl (decide (p = 0))) ah) : fIs false (beforeD p) .non ah q := by
  unfold beforeD
  by_cases e : p = 0
  · rw [if_pos e]; rw [decide_eq_true e] at h; exact h
  · rw [if_neg e]; rw [decide_eq_false e] at h; exact h
theorem part_ok {n b k p a c : Nat} {rs : List D} {full : Bool} {e1 e2 e4 e5 e8 : Option D} {ah0 ah : AH} {acc : List Str} {dn : DEnds} {x : QXS} (h2 : 2 ≤ b) (hb : b ≤ 10) (o : OkR b rs) (hn : ah0[n]? = some (styO (.int b) rs)) (a1 : 1 ≤ a) (ac : a ≤ c) (hc : (Z.ds b c).length ≤ 10000) (hl : acc.length < 50) (A1 : AccS ah0 k acc ah)
    (h : ∀ o9 ah', AccS ah0 k (acc ++ [partS b rs full p a c]) ah' → dn.nx [some (.ref n), e1, e2, some (.ref k), some (.int (c : Nat)), e5, some (.int (a : Nat)), some (.int (c : Nat)), e8, o9] ah') :
    w_ti4 [some (.ref n), e1, e2, some (.ref k), e4, e5, some (.int (a : Nat)), some (.int (c : Nat)), e8, some (.str (dg (headL b rs full p a)))] ah dn x := by
  have la : (Z.ds b a).length ≤ 10000 := Nat.le_trans (ds_mono h2 ac) hc
  have hh : (headL b rs full p a).length ≤ 10000 := Nat.le_trans head_len la
  have e1 : ("-" : Str).length = 1 := by decide +kernel
  unfold w_ti4
  simp only [wSeq, wAsg, wLst, wCons, wNil, wCall, wBin, wVar, wC, gt, st, gN, newL, wExpr, wMet, wTst, wIf, wRet, wNext, wTup, wCal, wNot, wAnd, wOr, wAndV, wOrV, wNotV, wIfE, wPar, wPar3, gT, gsC, gsN, wFld, fFld, wCMeth, wSl, wPart, wNoPart, wFor, wIter, fIter, wLc, nos, no, wRng1, wRng2, wChain, wNeg, wStar, wPut, wSetF, wAug, wYes, wEnum, atE, wMeth, fEq]
  refine ⟨isLst_of A1.at_, ?_⟩
  have fin : ∀ ah2, AccS ah0 k acc ah2 → ∀ z, z = partS b rs full p a c → acc.length < sizeLine ∧ dn.nx [some (.ref n), _, e2, some (.ref k), some (.int (c : Nat)), e5, some (.int (a : Nat)), some (.int (c : Nat)), e8, some (.str (dg (headL b rs full p a)))] (ah2.set k (.lst (acc.map D.str ++ [.str z]))) := fun ah2 A2 z ez => by
    refine ⟨Nat.lt_of_lt_of_le hl (by decide), h _ _ ?_⟩
    have A3 := A2.put (m := acc ++ [partS b rs full p a c])
    rw [List.map_append] at A3
    subst ez
    exact A3
  by_cases e : a = c
  · rw [decide_eq_true (by omega)]
    refine ite_t ?_
    simp only [fAppend, A1.at_, List.length_map]
    exact fin ah A1 _ (by unfold partS; rw [if_pos e])
  · rw [decide_eq_false (by omega)]
    refine ite_f ?_
    refine ⟨size_line (by rw [dg_len, e1]; omega), ?_⟩
    have hn1 := A1.ext _ _ hn
    refine insSty hn1 mne.2.2.2.2.1 mne.2.2.2.2.2 ?_
    refine tail_call ⟨h2, hb, by omega, by omega, hc⟩ o hn1 fun ah2 x2 => ?_
    have ht : (tailL b rs a c).length ≤ 10000 := Nat.le_trans tail_len hc
    refine ⟨size_line (by rw [len_add, dg_len, dg_len, e1]; omega), ?_⟩
    simp only [fAppend, (A1.step x2).at_, List.length_map]
    exact fin ah2 (A1.step x2) _ (by unfold partS; rw [if_neg e])
theorem text_loop {n b k : Nat} {rs : List D} {m : Str} {e2 : Option D} {ah0 : AH} (h2 : 2 ≤ b) (hb : b ≤ 10) (o : OkR b rs) (hn : ah0[n]? = some (styO (.int b) rs)) : ∀ (l : List (Nat × Nat)) (p : Nat) (acc : List Str) (o5 o6 o7 o8 o9 : Option D) (ah : AH) (dn : DEnds) (x : QXS), Asc b p l → acc.length + l.length ≤ 50 → AccS ah0 k acc ah →
    (∀ d4 o5 o6 o7 o8 o9 ah', AccS ah0 k (acc ++ partsS b rs (decide (m = "full")) p l) ah' → dn.nx [some (.ref n), some (.str m), e2, some (.ref k), some d4, o5, o6, o7, o8, o9] ah') →
    forGo (fun _ => True) (gN 5) w_ti1 dn x (l.map itD) [some (.ref n), some (.str m), e2, some (.ref k), some (beforeD p), o5, o6, o7, o8, o9] ah
  | [], p, acc, o5, o6, o7, o8, o9, ah, dn, x, _, _, hA, h => ⟨trivial, h _ o5 o6 o7 o8 o9 ah (by simpa [partsS] using hA)⟩
  | (a, c) :: l, p, acc, o5, o6, o7, o8, o9, ah, dn, x, ⟨g1, g2, g3, g4⟩, hl, hA, h => by
    simp only [List.length_cons] at hl
    obtain ⟨i1, i2, i3, i4⟩ := itD_ok (a := a) (c := c) (by omega) g2
    have la : (Z.ds b a).length ≤ 10000 := Nat.le_trans (ds_mono h2 g2) g3
    have hn0 := hA.ext _ _ hn
    refine ⟨trivial, itD (a, c), rfl, okD_ty (itD_okD (a, c)), ?_⟩
    rw [i4]
    simp only [wSeq, wAsg, wLst, wCons, wNil, wCall, wBin, wVar, wC, gt, st, gN, newL, wExpr, wMet, wTst, wIf, wRet, wNext, wTup, wCal, wNot, wAnd, wOr, wAndV, wOrV, wNotV, wIfE, wPar, wPar3, gT, gsC, gsN, wFld, fFld, wCMeth, wSl, wPart, wNoPart, wFor, wIter, fIter, wLc, nos, no, wRng1, wRng2, wChain, wNeg, wStar, wPut, wSetF, wAug, wYes, wEnum, atE, wMeth, hn0, look_base]
    refine ⟨rfl, fIs_before ?_⟩
    have part : ∀ o8 ah1, Ext ah ah1 → w_ti4 [some (.ref n), some (.str m), e2, some (.ref k), some (beforeD p), some (itD (a, c)), some (.int (a : Nat)), some (.int (c : Nat)), o8, some (.str (dg (headL b rs (decide (m = "full")) p a)))] ah1 { dn with nx := forGo (fun _ => True) (gN 5) w_ti1 dn x (l.map itD), ct := forGo (fun _ => True) (gN 5) w_ti1 dn x (l.map itD), bk := dn.nx } x := fun o8 ah1 x1 =>
      part_ok h2 hb o hn (by omega) g2 g3 (by omega) (hA.step x1) fun o9 ah2 A2 => by
        have e4 : (some (D.int (c : Nat)) : Option D) = some (beforeD c) := by
          unfold beforeD; rw [if_neg (by omega)]
        rw [e4]
        refine text_loop h2 hb o hn l c _ _ _ _ _ _ _ dn x g4 (by simp; omega) A2 fun d4 o5 o6 o7 o8 o9 ah' A4 => h d4 o5 o6 o7 o8 o9 ah' ?_
        rw [List.append_assoc] at A4
        exact A4
    have hd : ∀ o8 ah1, (decide (m = "full") = true ∨ p = 0) → Ext ah ah1 → w_ti4 [some (.ref n), some (.str m), e2, some (.ref k), some (beforeD p), some (itD (a, c)), some (.int (a : Nat)), some (.int (c : Nat)), o8, some (.str (dg (Z.ds b a)))] ah1 { dn with nx := forGo (fun _ => True) (gN 5) w_ti1 dn x (l.map itD), ct := forGo (fun _ => True) (gN 5) w_ti1 dn x (l.map itD), bk := dn.nx } x := fun o8 ah1 hf x1 => by
      have := part o8 ah1 x1
      unfold headL at this
      rw [if_pos hf] at this
      exact this
    by_cases p0 : p = 0
    · rw [decide_eq_true p0]
      simp only [if_true, hn0, look_base]
      refine ⟨by simp, b, a, rfl, h2, hb, by omega, fun ah1 x1 => ?_⟩
      exact hd _ _ (.inr p0) x1
    · rw [decide_eq_false p0]
      simp only [fEq]
      by_cases hm : m = "full"
      · rw [decide_eq_true hm]
        refine ite_t ?_
        simp only [hn0, look_base]
        refine ⟨by simp, b, a, rfl, h2, hb, by omega, fun ah1 x1 => ?_⟩
        exact hd _ _ (.inl (decide_eq_true hm)) x1
      · rw [decide_eq_false hm]
        refine ite_f ?_
        have eb : beforeD p = .int (p : Nat) := by unfold beforeD; rw [if_neg p0]
        rw [eb]
        refine insSty hn0 mne.2.2.2.2.1 mne.2.2.2.2.2 ?_
        refine tail_call ⟨h2, hb, by omega, g1, la⟩ o hn0 fun ah1 x1 => ?_
        have := part (some (.bl false)) ah1 x1
        unfold headL at this
        rw [if_neg (by simp [hm, p0]), eb] at this
        exact this
theorem join_len2 (ts : List Str) : (ts.map (·.length)).sum + ts.length * (", " : Str).length = (ts.map (·.length)).sum + 2 * ts.length := by
  rw [show (", " : Str).length = 2 from by decide +kernel]; omega
theorem wp_text_in (ds : List D) (ah : AH) (q : QE) (x : QX) (h : sp_text_in ds ah q x) : w_text_in (startD 10 ds) ah { nx := fun _ ah' => q .non ah', rt := q } (fun e _ ah' => x e ah') := by
  obtain ⟨n, b, rs, m, l, rfl, hn, o, h2, hb, hm, hA, hl, hq⟩ := h
  show w_text_in [some (.ref n), some (.str m), some (.tup (l.map itD)), none, none, none, none, none, none, none] ah _ _
  refine ⟨by decide, ?_⟩
  have A0 : AccS ah ah.length [] (ah ++ [O.lst []]) := ⟨Ext.push _, Nat.le_refl _, get_push _ _⟩
  refine text_loop h2 hb o hn l 0 [] none none none none none _ _ _ hA (by simpa using hl) A0 fun d4 o5 o6 o7 o8 o9 ah' A => ?_
  rw [List.nil_append] at A
  simp only [wSeq, wAsg, wLst, wCons, wNil, wCall, wBin, wVar, wC, gt, st, gN, newL, wExpr, wMet, wTst, wIf, wRet, wNext, wTup, wCal, wNot, wAnd, wOr, wAndV, wOrV, wNotV, wIfE, wPar, wPar3, gT, gsC, gsN, wFld, fFld, wCMeth, wSl, wPart, wNoPart, wFor, wIter, fIter, wLc, nos, no, wRng1, wRng2, wChain, wNeg, wStar, wPut, wSetF, wAug, wYes, wEnum, atE, fJoin, A.at_]
  obtain ⟨s1, s2⟩ := partsS_sum (rs := rs) (full := decide (m = "full")) h2 l 0 hA
  refine ⟨trivial, _, rfl, ?_, hq _ A.ext⟩
  rw [join_len2, s2]
  omega
def sp_entry_text : DSp := fun ds ah q x => ∃ (n b : Nat) (rs : List D) (d e : D), ds = [.ref n, d, e] ∧ ah[n]? = some (styO (.int b) rs) ∧ OkR b rs ∧ 2 ≤ b ∧ b ≤ 10 ∧ (tyD ah d).isSome = true ∧ okD ah e = true ∧
  (if isManner d = true then (match entryErr e with
    | some p => x ("BadEntry", [("place", p)]) ah
    | none => ∃ (m : Str) (l : List (Nat × Nat)), d = .str m ∧ e = .tup (l.map itD) ∧ Asc b 0 l ∧ ∀ ah', Ext ah ah' → q (.str (entS b rs (decide (m = "full")) l)) ah')
  else x ("BadManner", [("value", d)]) ah)
def w_entry_text : WS := (wSeq (wExpr (wCall sp_need_manner [] (wCons (wVar 1) wNil))) (wRet (wCall sp_text_in [] (wCons (wVar 0) (wCons (wVar 1) (wCons (wCall sp_need_entry [] (wCons (wVar 2) wNil)) wNil))))))
theorem wp_entry_text (ds : List D) (ah : AH) (q : QE) (x : QX) (h : sp_entry_text ds ah q x) : w_entry_text (startD 3 ds) ah { nx := fun _ ah' => q .non ah', rt := q } (fun e _ ah' => x e ah') := by
  obtain ⟨n, b, rs, d, e, rfl, hn, o, h2, hb, t1, ok, hq⟩ := h
  refine ⟨d, rfl, t1, ?_⟩
  cases hm : isManner d with
  | false => rw [hm, if_neg (by decide)] at hq; rw [if_neg (by decide)]; exact hq
  | true =>
    rw [hm, if_pos rfl] at hq
    rw [if_pos rfl]
    refine ⟨e, rfl, ok, ?_⟩
    cases he : entryErr e with
    | some p => rw [he] at hq; exact hq
    | none =>
      rw [he] at hq
      obtain ⟨m, l, rfl, rfl, hA, hq⟩ := hq
      have hl : l.length ≤ 50 := by
        have : (if _ then _ else _) = none := he
        split at this
        · rename_i hh; rw [List.length_map] at hh; exact hh.2
        · cases this
      exact ⟨n, b, rs, m, l, rfl, hn, o, h2, hb, hm, hA, hl, hq⟩
theorem entry_call {n b : Nat} {rs : List D} {m : Str} {l : List (Nat × Nat)} {ah : AH} {q : QE} {x : QX} (hn : ah[n]? = some (styO (.int b) rs)) (o : OkR b rs) (h2 : 2 ≤ b) (hb : b ≤ 10) (hm : isManner (.str m) = true) (hA : Asc b 0 l) (h1 : 1 ≤ l.length) (hl : l.length ≤ 50) (hq : ∀ ah', Ext ah ah' → q (.str (entS b rs (decide (m = "full")) l)) ah') :
    sp_entry_text [.ref n, .str m, .tup (l.map itD)] ah q x := by
  refine ⟨n, b, rs, _, _, rfl, hn, o, h2, hb, rfl, items_okD l, ?_⟩
  rw [hm, if_pos rfl, asc_entry hA h1 hl]
  exact ⟨m, l, rfl, rfl, hA, hq⟩
end Z
namespace Z
open PySem PySem.Spec PyProof.Rows L2
theorem pick' {m : Nat} {i : Int} {r : Nat} {ah : AH} {q : QE} {l : List D} {d : D} (hi : i = (r : Nat)) (h : ah[m]? = some (.lst l)) (e : l[r]? = some d) (hq : q d ah) : fAt (.ref m) (.int i) ah q := by
  subst hi; exact pick h e hq
theorem Ext.len {a c : AH} (h : Ext a c) : a.length ≤ c.length := by
  cases hl : a.length with
  | zero => omega
  | succ n =>
    have e : a[n]? = some a[n] := List.getElem?_eq_getElem (by omega)
    have := (List.getElem?_eq_some_iff.mp (h _ _ e)).1
    omega
theorem SI.set {a n : Nat} {ah : AH} {o : O} (h : SI a ah) (hn : 4 ≤ n) : SI a (ah.set n o) := by
  obtain ⟨c1, l1, g1, g2, g3, r⟩ := h.ex
  exact ⟨c1, l1, by rw [List.getElem?_set_ne (by omega)]; exact g1, by rw [List.getElem?_set_ne (by omega)]; exact g2, by rw [List.getElem?_set_ne (by omega)]; exact g3, r⟩
/-- a style made by name -/
theorem style_call {b : Nat} {rs : List D} {ah : AH} {q : QE} {x : QX} (h2 : 2 ≤ b) (hb : b ≤ 10) (o : OkR b rs) (hq : ∀ n ah', Ext ah ah' → ah.length ≤ n → ah'[n]? = some (styO (.int b) rs) → q (.ref n) ah') :
    mkSp "Style" (starSp 2 sp_Style___init__) (.int b :: rs) ah q x := by
  refine ⟨by simp, Nat.le_trans (show ((D.ref ah.length :: .int b :: rs).drop 2).length ≤ 8 by simpa using o.l8) (by decide), ah.length, .int b, rs, rfl, get_push _ _, rfl, okDs_rules o.all, fun ah' he => ?_⟩
  rw [style_fine h2 hb o.all o.l1 o.l8 o.last]
  have hlt : ah.length < ah'.length := (List.getElem?_eq_some_iff.mp (he _ _ (get_push ah (.ins "Style" [])))).1
  exact ⟨rfl, hq _ _ he.set_new (Nat.le_refl _) (by rw [List.getElem?_set_self hlt])⟩
/-- a style of a tuple of rules -/
theorem of_call {b : Nat} {rs : List D} {ah : AH} {q : QE} {x : QX} (h2 : 2 ≤ b) (hb : b ≤ 10) (o : OkR b rs) (hq : ∀ n ah', Ext ah ah' → ah.length ≤ n → ah'[n]? = some (styO (.int b) rs) → q (.ref n) ah') :
    sp_Style_of [.glo "Style", .int b, .tup rs] ah q x := by
  refine ⟨.int b, .tup rs, rfl, rfl, by unfold okD; exact okDs_rules o.all, ?_⟩
  have ha' : among (.int (b : Int)) 2 10 = true := by
    unfold among
    simp only [Bool.and_eq_true, decide_eq_true_eq]
    omega
  rw [ha', if_pos rfl]
  refine ⟨okDs_rules o.all, by have := o.l8; omega, fun ah4 x4 => ?_⟩
  rw [style_fine h2 hb o.all o.l1 o.l8 o.last]
  exact fun n hn e => hq n ah4 x4 hn e
/-! ### drawn entries -/
def sp__law_entry : DSp := fun ds ah q _ => ∃ b many a : Nat, ds = [.ref 3, .int b, .int many] ∧ 2 ≤ b ∧ b ≤ 10 ∧ 1 ≤ many ∧ many ≤ 50 ∧ SI a ah ∧ a < 2 ^ 39 ∧
  ∀ (l : List (Nat × Nat)) (a' : Nat) (ah' : AH), Asc b 0 l → l.length = many → (∀ p ∈ l, p.2 ≤ 300000 * many) → a' ≤ a + 10 * many → SI a' ah' → Fm ah ah' → q (.tup (l.map itD)) ah'
def w__law_entry : WS := (wSeq (wPar 3 4 (wCons (wLst wNil) (wCons (wC (.int 0)) wNil))) (wSeq (wFor (wRng1 (wCons (wVar 2) wNil)) (gN 5) (wSeq (wAsg (wCall sp__law_power [] (wCons (wVar 1) (wCons (wCall sp__law_draw [] (wCons (wVar 0) (wCons (wC (.int 6)) wNil))) wNil))) (gN 6)) (wSeq (wAsg (wBin fAdd (wBin fAdd (wVar 4) (wC (.int 1))) (wCall sp__law_draw [] (wCons (wVar 0) (wCons (wBin fAt (wLst (wCons (wC (.int 1)) (wCons (wC (.int 3)) (wCons (wVar 6) wNil)))) (wCall sp__law_draw [] (wCons (wVar 0) (wCons (wC (.int 3)) wNil)))) wNil)))) (gN 7)) (wSeq (wIf (wTst (wBin (fEq false) (wCall sp__law_draw [] (wCons (wVar 0) (wCons (wC (.int 4)) wNil))) (wC (.int 0)))) (wAsg (wBin fMul (wBin fAdd (wBin fDiv (wVar 4) (wVar 6)) (wC (.int 1))) (wVar 6)) (gN 7)) wNext) (wSeq (wAsg (wBin fAt (wLst (wCons (wC (.int 0)) (wCons (wC (.int 1)) (wCons (wCall sp__law_draw [] (wCons (wVar 0) (wCons (wVar 6) wNil))) (wCons (wVar 6) wNil))))) (wCall sp__law_draw [] (wCons (wVar 0) (wCons (wC (.int 4)) wNil)))) (gN 8)) (wSeq (wExpr (wMet isLst fAppend (wVar 3) (wCons (wIfE (wTst (wBin (fEq false) (wVar 8) (wC (.int 0)))) (wVar 7) (wTup (wCons (wVar 7) (wCons (wBin fAdd (wVar 7) (wVar 8)) wNil)))) wNil))) (wAsg (wBin fAdd (wVar 7) (wVar 8)) (gN 4)))))))) (wRet (wCal gTuple (wCons (wVar 3) wNil)))))
def w_en5 : WS := (wSeq (wAsg (wBin fAt (wLst (wCons (wC (.int 0)) (wCons (wC (.int 1)) (wCons (wCall sp__law_draw [] (wCons (wVar 0) (wCons (wVar 6) wNil))) (wCons (wVar 6) wNil))))) (wCall sp__law_draw [] (wCons (wVar 0) (wCons (wC (.int 4)) wNil)))) (gN 8)) (wSeq (wExpr (wMet isLst fAppend (wVar 3) (wCons (wIfE (wTst (wBin (fEq false) (wVar 8) (wC (.int 0)))) (wVar 7) (wTup (wCons (wVar 7) (wCons (wBin fAdd (wVar 7) (wVar 8)) wNil)))) wNil))) (wAsg (wBin fAdd (wVar 7) (wVar 8)) (gN 4))))
def w_en2 : WS := (wSeq (wIf (wTst (wBin (fEq false) (wCall sp__law_draw [] (wCons (wVar 0) (wCons (wC (.int 4)) wNil))) (wC (.int 0)))) (wAsg (wBin fMul (wBin fAdd (wBin fDiv (wVar 4) (wVar 6)) (wC (.int 1))) (wVar 6)) (gN 7)) wNext) w_en5)
def w_en1 : WS := (wSeq (wAsg (wCall sp__law_power [] (wCons (wVar 1) (wCons (wCall sp__law_draw [] (wCons (wVar 0) (wCons (wC (.int 6)) wNil))) wNil))) (gN 6)) (wSeq (wAsg (wBin fAdd (wBin fAdd (wVar 4) (wC (.int 1))) (wCall sp__law_draw [] (wCons (wVar 0) (wCons (wBin fAt (wLst (wCons (wC (.int 1)) (wCons (wC (.int 3)) (wCons (wVar 6) wNil)))) (wCall sp__law_draw [] (wCons (wVar 0) (wCons (wC (.int 3)) wNil)))) wNil)))) (gN 7)) w_en2))
theorem pow_small {b j : Nat} (hb : b ≤ 10) (h2 : 2 ≤ b) (hj : j ≤ 5) : 1 ≤ b ^ j ∧ b ^ j ≤ 100000 := by
  refine ⟨Nat.pow_pos (by omega), ?_⟩
  have h1 : b ^ j ≤ 10 ^ j := Nat.pow_le_pow_left hb j
  have h3 : 10 ^ j ≤ 10 ^ 5 := Nat.pow_le_pow_right (by decide) hj
  have : (10 : Nat) ^ 5 = 100000 := by decide
  omega
theorem short_small {b c : Nat} (h2 : 2 ≤ b) (hc : c ≤ 16000000) : (Z.ds b c).length ≤ 24 := by
  refine ds_short h2 24 c ?_
  have : (2 : Nat) ^ 24 ≤ b ^ 24 := Nat.pow_le_pow_left h2 24
  have e : (2 : Nat) ^ 24 = 16777216 := by decide
  omega
theorem asc_snoc {b : Nat} {a c : Nat} : ∀ {l : List (Nat × Nat)} {p : Nat}, Asc b p l → (l.getLast?.map (·.2)).getD p < a → a ≤ c → (Z.ds b c).length ≤ 10000 → Asc b p (l ++ [(a, c)])
  | [], p, _, h1, h2, h3 => ⟨h1, h2, h3, trivial⟩
  | (x, y) :: l, p, ⟨g1, g2, g3, g4⟩, h1, h2, h3 => by
    refine ⟨g1, g2, g3, asc_snoc g4 ?_ h2 h3⟩
    cases l with
    | nil => exact h1
    | cons z l => 
      rw [List.getLast?_cons_cons] at h1
      cases hl : (z :: l).getLast? with
      | none => simp at hl
      | some w => rw [hl] at h1; exact h1
theorem itD_made {f m : Nat} : (if m = 0 then D.int (f : Nat) else .tup [.int (f : Nat), .int ((f : Int) + m)]) = itD (f, f + m) := by
  unfold itD
  dsimp only
  by_cases h : m = 0
  · rw [if_pos h, if_pos (by omega)]
  · rw [if_neg h, if_neg (by omega)]
    congr 3
theorem ent5 {b n f last s : Nat} {e2 e5 e8 : Option D} {acc : List (Nat × Nat)} {a : Nat} {ah : AH} {dn : DEnds} {x : QXS} (h4 : 4 ≤ n) (hs : SI a ah) (ha : a < 2 ^ 45) (s1 : 1 ≤ s) (s5 : s ≤ 100000) (hacc : acc.length < 50) (hA : ah[n]? = some (.lst (acc.map itD)))
    (h : ∀ (m : Nat) (o8 : Option D) (a' : Nat) (ah' : AH), m ≤ 100000 → a' ≤ a + 2 → SI a' ah' → ah'[n]? = some (.lst ((acc ++ [(f, f + m)]).map itD)) → (∀ k o, 4 ≤ k → k ≠ n → ah[k]? = some o → ah'[k]? = some o) → dn.nx [some (.ref 3), some (.int b), e2, some (.ref n), some (.int ((f + m : Nat) : Int)), e5, some (.int (s : Nat)), some (.int (f : Nat)), o8] ah') :
    w_en5 [some (.ref 3), some (.int b), e2, some (.ref n), some (.int (last : Nat)), e5, some (.int (s : Nat)), some (.int (f : Nat)), e8] ah dn x := by
  unfold w_en5
  simp only [wSeq, wAsg, wLst, wCons, wNil, wCall, wBin, wVar, wC, gt, st, gN, newL, wExpr, wMet, wTst, wIf, wRet, wNext, wTup, wCal, wNot, wAnd, wOr, wAndV, wOrV, wNotV, wIfE, wPar, wPar3, gT, gsC, gsN, wFld, fFld, wCMeth, wSl, wPart, wNoPart, wFor, wIter, fIter, wLc, nos, no, wRng1, wRng2, wChain, wNeg, wStar, wPut, wSetF, wAug, wYes, wEnum, atE]
  refine ⟨s, a, rfl, by omega, by omega, hs, by omega, fun r1 ah1 hr1 s1' f1 => ?_⟩
  refine ⟨show 4 ≤ 16777216 by decide, ?_⟩
  refine ⟨4, a + 1, rfl, by decide, by decide, s1'.ext (Ext.push _), by omega, fun r2 ah2 hr2 s2 f2 => ?_⟩
  have g := fm_lst s1'.len f2
  have fm : Fm ah ah2 := f1.trans ((Ext.push _).fm.trans f2)
  obtain ⟨m, em, hm⟩ : ∃ m : Nat, [D.int 0, .int 1, .int (r1 : Nat), .int (s : Nat)][r2]? = some (.int (m : Nat)) ∧ m ≤ 100000 := by
    have c : r2 = 0 ∨ r2 = 1 ∨ r2 = 2 ∨ r2 = 3 := by omega
    rcases c with rfl | rfl | rfl | rfl
    · exact ⟨0, rfl, by omega⟩
    · exact ⟨1, rfl, by omega⟩
    · exact ⟨r1, rfl, by omega⟩
    · exact ⟨s, rfl, by omega⟩
  refine pick g em ?_
  have hA2 := fm _ _ h4 hA
  have hlt : n < ah2.length := (List.getElem?_eq_some_iff.mp hA2).1
  simp only [fEq, fAdd]
  refine ⟨isLst_of hA2, ?_⟩
  have fin : ∀ d, d = itD (f, f + m) → fAppend (.ref n) [d] ah2 fun _ ah1 => dn.nx [some (.ref 3), some (.int b), e2, some (.ref n), some (.int ((f : Int) + m)), e5, some (.int (s : Nat)), some (.int (f : Nat)), some (.int (m : Nat))] ah1 := fun d hd => by
    subst hd
    simp only [fAppend, hA2, List.length_map]
    refine ⟨Nat.lt_of_lt_of_le hacc (by decide), ?_⟩
    have := h m (some (.int (m : Nat))) (a + 2) (ah2.set n (.lst (acc.map itD ++ [itD (f, f + m)]))) hm (by omega) (s2.set h4) (by rw [List.getElem?_set_self hlt, List.map_append]; rfl) fun k o hk hne e => by
      rw [List.getElem?_set_ne (Ne.symm hne)]
      exact fm k o hk e
    rw [Int.natCast_add] at this
    exact this
  by_cases m0 : m = 0
  · rw [decide_eq_true (by omega)]
    refine ite_t (fin _ ?_)
    rw [← itD_made, if_pos m0]
  · rw [decide_eq_false (by omega)]
    refine ite_f ⟨show 2 ≤ 16777216 by decide, fin _ ?_⟩
    rw [← itD_made, if_neg m0]
theorem ent_loop {b n : Nat} {e2 : Option D} (h2 : 2 ≤ b) (hb : b ≤ 10) (h4 : 4 ≤ n) : ∀ (l : List D) (acc : List (Nat × Nat)) (last a : Nat) (o5 o6 o7 o8 : Option D) (ah : AH) (dn : DEnds) (x : QXS), Asc b 0 acc → (acc.getLast?.map (·.2)).getD 0 = last → last ≤ 300000 * acc.length → (∀ p ∈ acc, p.2 ≤ last) → acc.length + l.length ≤ 50 → SI a ah → a + 10 * l.length < 2 ^ 44 → ah[n]? = some (.lst (acc.map itD)) →
    (∀ (l' : List (Nat × Nat)) (a' : Nat) (o4 o5 o6 o7 o8 : Option D) (ah' : AH), Asc b 0 l' → l'.length = acc.length + l.length → (∀ p ∈ l', p.2 ≤ 300000 * (acc.length + l.length)) → a' ≤ a + 10 * l.length → SI a' ah' → ah'[n]? = some (.lst (l'.map itD)) → (∀ k o, 4 ≤ k → k ≠ n → ah[k]? = some o → ah'[k]? = some o) → dn.nx [some (.ref 3), some (.int b), e2, some (.ref n), o4, o5, o6, o7, o8] ah') →
    forGo (fun _ => True) (gN 5) w_en1 dn x l [some (.ref 3), some (.int b), e2, some (.ref n), some (.int (last : Nat)), o5, o6, o7, o8] ah
  | [], acc, last, a, o5, o6, o7, o8, ah, dn, x, hc, hla, hlb, hle, hl, hs, ha, hA, h => ⟨trivial, h acc a _ o5 o6 o7 o8 ah hc (by simp) (fun p hp => by have := hle p hp; simp; omega) (by simp) hs hA fun _ _ _ _ e => e⟩
  | d :: l, acc, last, a, o5, o6, o7, o8, ah, dn, x, hc, hla, hlb, hle, hl, hs, ha, hA, h => by
    simp only [List.length_cons] at hl ha h
    refine ⟨trivial, ?_⟩
    unfold w_en1
    simp only [wSeq, wAsg, wLst, wCons, wNil, wCall, wBin, wVar, wC, gt, st, gN, newL, wExpr, wMet, wTst, wIf, wRet, wNext, wTup, wCal, wNot, wAnd, wOr, wAndV, wOrV, wNotV, wIfE, wPar, wPar3, gT, gsC, gsN, wFld, fFld, wCMeth, wSl, wPart, wNoPart, wFor, wIter, fIter, wLc, nos, no, wRng1, wRng2, wChain, wNeg, wStar, wPut, wSetF, wAug, wYes, wEnum, atE]
    refine ⟨6, a, rfl, by decide, by decide, hs, by omega, fun j ah1 hj s1 f1 => ?_⟩
    refine ⟨b, j, rfl, by omega, by omega, ?_⟩
    obtain ⟨p1, p5⟩ := pow_small (j := j) hb h2 (by omega)
    simp only [fAdd]
    refine ⟨show 3 ≤ 16777216 by decide, 3, a + 1, rfl, by decide, by decide, s1.ext (Ext.push _), by omega, fun r2 ah2 hr2 s2 f2 => ?_⟩
    have g := fm_lst s1.len f2
    have fm2 : Fm ah ah2 := f1.trans ((Ext.push _).fm.trans f2)
    obtain ⟨y, ey, hy1, hy⟩ : ∃ y : Nat, [D.int 1, .int 3, .int ((b ^ j : Nat) : Int)][r2]? = some (.int (y : Nat)) ∧ 1 ≤ y ∧ y ≤ 100000 := by
      have c : r2 = 0 ∨ r2 = 1 ∨ r2 = 2 := by omega
      rcases c with rfl | rfl | rfl
      · exact ⟨1, rfl, by omega, by omega⟩
      · exact ⟨3, rfl, by omega, by omega⟩
      · exact ⟨b ^ j, rfl, p1, p5⟩
    refine pick g ey ?_
    refine ⟨y, a + 1 + 1, rfl, by omega, by omega, s2, by omega, fun r3 ah3 hr3 s3 f3 => ?_⟩
    have fm3 : Fm ah ah3 := fm2.trans f3
    unfold w_en2
    simp only [wSeq, wAsg, wLst, wCons, wNil, wCall, wBin, wVar, wC, gt, st, gN, newL, wExpr, wMet, wTst, wIf, wRet, wNext, wTup, wCal, wNot, wAnd, wOr, wAndV, wOrV, wNotV, wIfE, wPar, wPar3, gT, gsC, gsN, wFld, fFld, wCMeth, wSl, wPart, wNoPart, wFor, wIter, fIter, wLc, nos, no, wRng1, wRng2, wChain, wNeg, wStar, wPut, wSetF, wAug, wYes, wEnum, atE]
    refine ⟨4, a + 1 + 1 + 1, rfl, by decide, by decide, s3, by omega, fun r4 ah4 hr4 s4 f4 => ?_⟩
    have fm4 : Fm ah ah4 := fm3.trans f4
    have rest : ∀ f : Nat, last < f → f ≤ last + 100001 → w_en5 [some (.ref 3), some (.int b), e2, some (.ref n), some (.int (last : Nat)), some d, some (.int ((b ^ j : Nat) : Int)), some (.int (f : Nat)), o8] ah4 { dn with nx := forGo (fun _ => True) (gN 5) w_en1 dn x l, ct := forGo (fun _ => True) (gN 5) w_en1 dn x l, bk := dn.nx } x := fun f hf1 hf2 => by
      refine ent5 h4 s4 (by omega) p1 p5 (by omega) (fm4 _ _ h4 hA) fun m o8 a' ah' hm ha' s' hA' fr => ?_
      have hc' : Asc b 0 (acc ++ [(f, f + m)]) := asc_snoc hc (by rw [hla]; exact hf1) (by omega) (Nat.le_trans (short_small h2 (by omega)) (by decide))
      refine ent_loop h2 hb h4 l (acc ++ [(f, f + m)]) (f + m) a' _ _ _ _ ah' dn x hc' (by simp) (by simp; omega) (fun p hp => ?_) (by simp; omega) s' (by omega) hA' fun l' a2 o4 o5 o6 o7 o8 ah2 q1 q2 q3 q4 q5 q6 q7 => h l' a2 o4 o5 o6 o7 o8 ah2 q1 (by simp at q2; omega) (fun p hp => by have := q3 p hp; simp at this; omega) (by omega) q5 q6 fun k o hk hne e => q7 k o hk hne (fr k o hk hne (fm4 _ _ hk e))
      rcases List.mem_append.mp hp with z | z
      · have := hle p z; omega
      · rw [List.mem_singleton.mp z]; exact Nat.le_refl _
    simp only [fEq]
    by_cases r0 : r4 = 0
    · rw [decide_eq_true (by omega)]
      refine ite_t ?_
      simp only [fDiv, fAdd, fMul]
      refine ⟨⟨by omega, ?_⟩, mul_small ⟨by omega, by omega⟩, ?_⟩
      · rw [Int.natAbs_natCast]
        exact Nat.lt_of_lt_of_le (log2_nat (k := 20) (by decide) (by omega)) (by decide)
      · have e : (((last : Int) / ((b ^ j : Nat) : Int) + 1) * ((b ^ j : Nat) : Int)) = (((last / b ^ j + 1) * b ^ j : Nat) : Int) := by
          rw [Int.natCast_mul, Int.natCast_add, Int.natCast_ediv]; rfl
        rw [e]
        have h1 := Nat.div_add_mod' last (b ^ j)
        have h3 := Nat.mod_lt last (show b ^ j > 0 by omega)
        have h5 : (last / b ^ j + 1) * b ^ j = last / b ^ j * b ^ j + b ^ j := by rw [Nat.add_mul, Nat.one_mul]
        have h6 : last / b ^ j * b ^ j ≤ last := Nat.div_mul_le_self _ _
        exact rest ((last / b ^ j + 1) * b ^ j) (by omega) (by omega)
    · rw [decide_eq_false (by omega)]
      refine ite_f ?_
      have e : (last : Int) + 1 + (r3 : Nat) = ((last + 1 + r3 : Nat) : Int) := by omega
      rw [e]
      exact rest (last + 1 + r3) (by omega) (by omega)
theorem wp__law_entry (ds : List D) (ah : AH) (q : QE) (x : QX) (h : sp__law_entry ds ah q x) : w__law_entry (startD 9 ds) ah { nx := fun _ ah' => q .non ah', rt := q } (fun e _ ah' => x e ah') := by
  obtain ⟨b, many, a, rfl, h2, hb, m1, m5, hs, ha, hq⟩ := h
  show w__law_entry [some (.ref 3), some (.int b), some (.int many), none, none, none, none, none, none] ah _ _
  refine ⟨by decide, ?_⟩
  refine ⟨by omega, by omega, ?_⟩
  have hlen : (rangeD 0 ((many : Nat) : Int).toNat).length = many := by rw [rangeD_len]; simp
  refine ent_loop h2 hb hs.len (rangeD 0 ((many : Nat) : Int).toNat) [] 0 a none none none none _ _ _ trivial rfl (by simp) (by simp) (by rw [hlen]; simpa using m5) (hs.ext (Ext.push _)) (by rw [hlen]; omega) (get_push _ _) fun l' a' o4 o5 o6 o7 o8 ah' q1 q2 q3 q4 q5 q6 q7 => ?_
  rw [hlen] at q2 q3 q4
  simp only [wSeq, wAsg, wLst, wCons, wNil, wCall, wBin, wVar, wC, gt, st, gN, newL, wExpr, wMet, wTst, wIf, wRet, wNext, wTup, wCal, wNot, wAnd, wOr, wAndV, wOrV, wNotV, wIfE, wPar, wPar3, gT, gsC, gsN, wFld, fFld, wCMeth, wSl, wPart, wNoPart, wFor, wIter, fIter, wLc, nos, no, wRng1, wRng2, wChain, wNeg, wStar, wPut, wSetF, wAug, wYes, wEnum, atE, gTuple, q6]
  refine hq l' a' ah' q1 (by simpa using q2) (fun p hp => by simpa using q3 p hp) q4 q5 fun m o hm e => ?_
  have hlt : m < ah.length := (List.getElem?_eq_some_iff.mp e).1
  exact q7 m o hm (by omega) (Ext.push _ _ _ e)
end Z
namespace Z
open PySem PySem.Spec PyProof.Rows L2
/-! ### digits that can be computed -/
def dsF (b : Nat) : Nat → Nat → List Nat
  | 0, _ => []
  | k + 1, n => if n = 0 ∨ b < 2 then [] else dsF b k (n / b) ++ [n % b]
theorem dsF_eq {b : Nat} : ∀ (k n : Nat), n < k → dsF b k n = Z.ds b n
  | 0, n, h => by omega
  | k + 1, n, h => by
    unfold dsF
    rw [Z.ds]
    by_cases c : n = 0 ∨ b < 2
    · rw [if_pos c, dif_pos c]
    · rw [if_neg c, dif_neg c, dsF_eq k (n / b) (Nat.lt_of_lt_of_le (Nat.div_lt_self (by omega) (by omega)) (by omega))]
def dsK (b n : Nat) : List Nat := dsF b (n + 1) n
theorem ds_K : Z.ds = dsK := funext fun b => funext fun n => (dsF_eq (n + 1) n (by omega)).symm
/-! ### data of entries -/
def itP (p : Nat × Nat) : PyData := if p.1 = p.2 then .int (p.1 : Nat) else .tuple [.int (p.1 : Nat), .int (p.2 : Nat)]
theorem pd_it (f : Nat) (ah : AH) (p : Nat × Nat) : pd (f + 1) ah (itD p) = some (itP p) := by
  unfold itD itP
  split
  · exact (pd_flat _ _).2.1 _
  · show (pds (pd f ah) _).map PyData.tuple = _
    simp only [pds, (pd_flat f ah).2.1, Option.map_some]
theorem pds_it (f : Nat) (ah : AH) : ∀ l : List (Nat × Nat), pds (pd (f + 1) ah) (l.map itD) = some (l.map itP)
  | [] => rfl
  | p :: l => by
    rw [List.map_cons]
    unfold pds
    rw [pd_it, pds_it f ah l]; rfl
theorem pd_items (ah : AH) (l : List (Nat × Nat)) : pd 20 ah (.tup (l.map itD)) = some (.tuple (l.map itP)) := by
  show (pds (pd 19 ah) _).map PyData.tuple = _
  rw [pds_it 18]; rfl
theorem items_fine : ∀ (l : List (Nat × Nat)), (∀ p ∈ l, p.1 < 2 ^ 1900 ∧ p.2 < 2 ^ 1900) → finePs (l.map itP) = true ∧ wts (l.map itP) ≤ 4000 * l.length
  | [], _ => ⟨rfl, by simp [wts]⟩
  | p :: l, h => by
    obtain ⟨i1, i2⟩ := items_fine l fun q hq => h q (List.mem_cons_of_mem _ hq)
    obtain ⟨h1, h2⟩ := h p (by simp)
    have small : ∀ n : Nat, n < 2 ^ 1900 → fineP (.int (n : Int)) = true := fun n hn => decide_eq_true (by
      rw [Int.natAbs_natCast]
      exact Nat.lt_of_lt_of_le (log2_nat (k := 1900) (by decide) hn) (by decide))
    have one : fineP (itP p) = true ∧ wt (itP p) ≤ 3900 := by
      unfold itP
      split
      · exact ⟨small _ h1, by show 1921 ≤ _; decide⟩
      · refine ⟨?_, by show (1921 + 2 + (1921 + 2 + 0)) + 3 ≤ _; decide⟩
        show (fineP _ && (fineP _ && true)) = true
        rw [small _ h1, small _ h2]; rfl
    refine ⟨?_, ?_⟩
    · show (fineP _ && finePs _) = true
      rw [one.1, i1]; rfl
    · show wt (itP p) + 2 + wts _ ≤ _
      rw [List.length_cons]
      omega
theorem repr_items {l : List (Nat × Nat)} {ah : AH} {q : QE} (hl : l.length ≤ 1000) (h : ∀ p ∈ l, p.1 < 2 ^ 1900 ∧ p.2 < 2 ^ 1900) (hq : q (.str (PyData.tuple (l.map itP)).shown) ah) : gRepr [.tup (l.map itD)] ah q := by
  obtain ⟨h1, h2⟩ := items_fine l h
  exact gRepr_fine (pd_items ah l) h1 (by show wts _ + 3 ≤ _; omega) hq
/-! ### the signs of a text -/
def low (z : Str) : Prop := ∀ c ∈ z.cps.toList, c < 200
theorem low_dg {l : List Nat} (h : ∀ d ∈ l, d < 100) : low (dg l) := fun c hc => by
  rw [dg_cps] at hc
  obtain ⟨d, hd, rfl⟩ := List.mem_map.mp hc
  have := h d hd
  omega
theorem low_add {a b : Str} (ha : low a) (hb : low b) : low (a ++ b) := fun c hc => by
  have : c ∈ (a.cps ++ b.cps).toList := hc
  rw [Array.toList_append] at this
  rcases List.mem_append.mp this with z | z
  · exact ha c z
  · exact hb c z
theorem low_join {sep : Str} (hs : low sep) : ∀ {ts : List Str}, (∀ t ∈ ts, low t) → low (Str.join sep ts)
  | [], _ => fun c hc => by
    have : c ∈ ([] : List Nat) := hc
    simp at this
  | [x], h => h x (by simp)
  | x :: y :: r, h => by
    show low (x ++ sep ++ Str.join sep (y :: r))
    exact low_add (low_add (h x (by simp)) hs) (low_join hs fun t ht => h t (List.mem_cons_of_mem _ ht))
theorem low_txt {sep : Str} (hs : low sep) {ts : List Str} (h : ∀ t ∈ ts, low t) : low (Txt.join sep ts) := by
  unfold Txt.join
  rw [StrLaws.glued_eq_join]
  exact low_join hs h
theorem low_16 {z : Str} (h : low z) : ∀ c ∈ z.cps.toList, c < 16 ^ 8 := fun c hc => Nat.lt_of_lt_of_le (h c hc) (by decide)
theorem ds_low {b n : Nat} (h2 : 2 ≤ b) (hb : b ≤ 10) : ∀ d ∈ Z.ds b n, d < 100 := fun d hd => by have := ds_lt h2 n d hd; omega
theorem tail_low {b f s : Nat} {rs : List D} (h2 : 2 ≤ b) (hb : b ≤ 10) : ∀ d ∈ tailL b rs f s, d < 100 := fun d hd => ds_low h2 hb d (List.mem_of_mem_drop hd)
theorem low_str {z : Str} (h : (z.cps.toList.all fun c => decide (c < 200)) = true) : low z := fun c hc => of_decide_eq_true (List.all_eq_true.mp h c hc)
theorem part_low {b p a c : Nat} {rs : List D} {full : Bool} (h2 : 2 ≤ b) (hb : b ≤ 10) : low (partS b rs full p a c) := by
  have hh : low (dg (headL b rs full p a)) := low_dg fun d hd => by
    unfold headL at hd
    split at hd
    · exact ds_low h2 hb d hd
    · exact tail_low h2 hb d hd
  unfold partS
  split
  · exact hh
  · exact low_add (low_add hh (low_str (by decide +kernel))) (low_dg (tail_low h2 hb))
theorem ent_low {b : Nat} {rs : List D} {full : Bool} {l : List (Nat × Nat)} (h2 : 2 ≤ b) (hb : b ≤ 10) : low (entS b rs full l) := by
  refine low_txt (low_str (by decide +kernel)) ?_
  have : ∀ (l : List (Nat × Nat)) (p : Nat), ∀ t ∈ partsS b rs full p l, low t := fun l => by
    induction l with
    | nil => intro p t ht; simp [partsS] at ht
    | cons q l ih =>
      intro p t ht
      unfold partsS at ht
      rcases List.mem_cons.mp ht with rfl | ht
      · exact part_low h2 hb
      · exact ih _ t ht
  exact this l 0
theorem join_le (ts : List Str) : (Txt.join ", " ts).length ≤ (ts.map (·.length)).sum + 2 * ts.length := by
  unfold Txt.join
  rw [StrLaws.glued_eq_join]
  have := StrLaws.join_length_le (", " : Str) ts
  rw [show (", " : Str).length = 2 from by decide +kernel] at this
  omega
theorem ent_len {b : Nat} {rs : List D} {full : Bool} {l : List (Nat × Nat)} (h2 : 2 ≤ b) (hA : Asc b 0 l) (hl : l.length ≤ 50) : (entS b rs full l).length ≤ 1600000 := by
  obtain ⟨s1, s2⟩ := partsS_sum (rs := rs) (full := full) h2 l 0 hA
  refine Nat.le_trans (join_le _) ?_
  rw [s2]; omega
theorem repr_ent {b : Nat} {rs : List D} {full : Bool} {l : List (Nat × Nat)} {ah : AH} {q : QE} (h2 : 2 ≤ b) (hb : b ≤ 10) (hA : Asc b 0 l) (hl : l.length ≤ 50) (hq : q (.str (PyData.shown (.str (entS b rs full l)))) ah) : gRepr [.str (entS b rs full l)] ah q :=
  repr_str (low_16 (ent_low h2 hb)) (ent_len h2 hA hl) hq
theorem cut_take1 {α : Type} (f : α → D) (l : List α) : cutD (l.map f) none (some 1) = (l.take 1).map f := by
  unfold cutD
  rw [HT.sIx_none]
  have : HT.sIx (l.map f).length (l.map f).length (some 1) = min 1 (l.map f).length := HT.sIx_nat _ _ 1
  rw [this, List.drop_zero, Nat.sub_zero, List.length_map]
  cases l <;> simp
/-! ### two lists of texts compared -/
theorem pds_strs (f : Nat) (ah : AH) : ∀ ns : List Str, pds (pd f ah) (ns.map D.str) = some (ns.map PyData.str)
  | [] => rfl
  | n :: ns => by
    rw [List.map_cons]
    unfold pds
    rw [pds_strs f ah ns, (pd_flat f ah).1]; rfl
theorem pd_strs {n : Nat} {ah : AH} {l : List Str} (f : Nat) (h : ah[n]? = some (.lst (l.map D.str))) : pd (f + 1) ah (.ref n) = some (.list (l.map PyData.str)) := by
  show (match ah[n]? with | some (.lst xs) => (pds (pd f ah) xs).map PyData.list | _ => none) = _
  rw [h]
  show (pds (pd f ah) (l.map D.str)).map PyData.list = _
  rw [pds_strs]; rfl
theorem eqv_strs : ∀ l m : List Str, PyData.eqvAll (l.map PyData.str) (m.map PyData.str) = decide (l = m)
  | [], [] => rfl
  | [], _ :: _ => rfl
  | _ :: _, [] => rfl
  | a :: l, b :: m => by
    show (PyData.eqv (.str a) (.str b) && PyData.eqvAll _ _) = _
    rw [eqv_strs l m, Bool.eq_iff_iff]
    show ((a == b) && _) = true ↔ _
    simp
theorem shaped_strs : ∀ (l : List Str), (∀ t ∈ l, low t) → SeqAt.shaped (.list (l.map PyData.str)) = true := fun l h => by
  unfold SeqAt.shaped
  rw [Bool.and_eq_true]
  have h1 : ∀ l : List Str, (∀ t ∈ l, low t) → PyData.canLayAll0 (l.map PyData.str) = true := fun l => by
    induction l with
    | nil => intro _; rfl
    | cons t l ih =>
      intro h
      show (PyData.strOk t && PyData.canLayAll0 _) = true
      rw [ih fun t ht => h t (List.mem_cons_of_mem _ ht), strOk_of (h t (by simp))]; rfl
  have h2 : ∀ l : List Str, PyData.depthAll (l.map PyData.str) = 0 := fun l => by
    induction l with
    | nil => rfl
    | cons t l ih => show max 0 (PyData.depthAll _) = 0; rw [ih]; rfl
  refine ⟨h1 l h, decide_eq_true ?_⟩
  show PyData.depthAll _ + 1 ≤ 64
  rw [h2]; decide
theorem eq_strs {neg : Bool} {n m : Nat} {ah : AH} {q : QE} {l l' : List Str} (h : ah[n]? = some (.lst (l.map D.str))) (h' : ah[m]? = some (.lst (l'.map D.str))) (hl : ∀ t ∈ l, low t) (hl' : ∀ t ∈ l', low t) (hq : q (.bl (neg != decide (l = l'))) ah) : fEq neg (.ref n) (.ref m) ah q := by
  refine ⟨_, _, pd_strs 19 h, pd_strs 19 h', shaped_strs l hl, shaped_strs l' hl', ?_⟩
  have e : PyData.eqv (.list (l.map PyData.str)) (.list (l'.map PyData.str)) = decide (l = l') := eqv_strs l l'
  rw [e]; exact hq
end Z
namespace Z
open PySem PySem.Spec PyProof.Rows L2
theorem fEq_sameS {a : Str} {ah : AH} {q : QE} (h : q (.bl false) ah) : fEq true (.str a) (.str a) ah q := by
  show q (.bl (true != decide (a = a))) ah
  rw [decide_eq_true rfl]; exact h
theorem fEq_sameB {a : Bool} {ah : AH} {q : QE} (h : q (.bl false) ah) : fEq true (.bl a) (.bl a) ah q := by
  show q (.bl (true != decide (a = a))) ah
  rw [decide_eq_true rfl]; exact h
/-! ### readers -/
def isReader (z : Str) : Prop := z = "replace" ∨ z = "next"
def isDs (b : Nat) (l : List Nat) : Prop := l ≠ [] ∧ ∀ d ∈ l, d < b
def readerB (d : D) : Bool := match d with
  | .str z => decide (z = "replace") || decide (z = "next")
  | _ => false
theorem readerB_str {d : D} (h : readerB d = true) : ∃ z, d = .str z ∧ isReader z := by
  unfold readerB at h
  split at h
  · simp only [Bool.or_eq_true, decide_eq_true_eq] at h
    exact ⟨_, rfl, h⟩
  · cases h
theorem readerB_of {z : Str} (h : isReader z) : readerB (.str z) = true := by
  show (decide _ || decide _) = true
  simp only [Bool.or_eq_true, decide_eq_true_eq]
  exact h
def sp_need_reader : DSp := fun ds ah q x => ∃ d, ds = [d] ∧ (tyD ah d).isSome = true ∧ (if readerB d = true then q .non ah else x ("BadReader", [("value", d)]) ah)
def w_need_reader : WS := (wIf ((wOr (wNot (wTst (wCal gIsi (wCons (wVar 0) (wCons (wC (.ty "str")) wNil))))) (wTst (wBin (fIn true) (wVar 0) (wC (.tup ((["replace", "next"] : List Str).map D.str))))))) (wRaise "BadReader" ["value"] (wCons (wVar 0) wNil)) wNext)
theorem wp_need_reader (ds : List D) (ah : AH) (q : QE) (x : QX) (h : sp_need_reader ds ah q x) : w_need_reader (startD 1 ds) ah { nx := fun _ ah' => q .non ah', rt := q } (fun e _ ah' => x e ah') := by
  obtain ⟨d, rfl, h1, hq⟩ := h
  show w_need_reader [some d] ah _ _
  unfold w_need_reader
  obtain ⟨t, ht⟩ := Option.isSome_iff_exists.mp h1
  simp only [wSeq, wAsg, wLst, wCons, wNil, wCall, wBin, wVar, wC, gt, st, gN, newL, wExpr, wMet, wTst, wIf, wRet, wNext, wTup, wCal, wNot, wAnd, wOr, wAndV, wOrV, wNotV, wIfE, wPar, wPar3, gT, gsC, gsN, wFld, fFld, wCMeth, wSl, wPart, wNoPart, wFor, wIter, fIter, wLc, nos, no, wRng1, wRng2, wChain, wNeg, wStar, wPut, wSetF, wAug, wYes, wEnum, atE]
  refine gIsi_of ht (by decide) ?_
  by_cases hd : ∃ z, d = .str z
  · obtain ⟨z, rfl⟩ := hd
    cases ht
    rw [ts]
    refine ite_f ⟨rfl, rfl, ?_⟩
    rw [in_two]
    have e : readerB (.str z) = (decide (z = "replace") || decide (z = "next")) := rfl
    rw [← e, Bool.true_bne]
    cases hm : readerB (.str z) with
    | true => rw [hm, if_pos rfl] at hq; exact ite_f hq
    | false => rw [hm, if_neg (by decide)] at hq; exact ite_t ⟨rfl, by decide, hq⟩
  · rw [ty_str ht (fun z e => hd ⟨z, e⟩)]
    have : readerB d = false := by
      unfold readerB
      split
      · exact (hd ⟨_, rfl⟩).elim
      · rfl
    rw [this, if_neg (by decide)] at hq
    refine ite_t ?_
    first
      | exact ⟨rfl, by decide, hq⟩
      | exact ite_t ⟨rfl, by decide, hq⟩
def tailB (b : Nat) (d : D) : Bool := areB b d && (match d with
  | .str z => decide (z.length ≤ 1000)
  | _ => false)
def sp_is_tail : DSp := fun ds ah q _ => ∃ (b : Nat) (d : D), ds = [.int b, d] ∧ 2 ≤ b ∧ b ≤ 10 ∧ (tyD ah d).isSome = true ∧ short d ∧ ∀ ah', Ext ah ah' → q (.bl (tailB b d)) ah'
def w_is_tail : WS := (wRet ((wAndV (wCall sp_are_digits [] (wCons (wVar 0) (wCons (wVar 1) wNil))) (wBin fLe (wCal gLen (wCons (wVar 1) wNil)) (wC (.int 1000))))))
theorem wp_is_tail (ds : List D) (ah : AH) (q : QE) (x : QX) (h : sp_is_tail ds ah q x) : w_is_tail (startD 2 ds) ah { nx := fun _ ah' => q .non ah', rt := q } (fun e _ ah' => x e ah') := by
  obtain ⟨b, d, rfl, h2, hb, ht, hs, hq⟩ := h
  show w_is_tail [some (.int b), some d] ah _ _
  refine ⟨b, d, rfl, h2, hb, ht, hs, fun ah' he => ?_⟩
  have h1 := hq _ he
  unfold tailB at h1
  cases ha : areB b d with
  | false => rw [ha] at h1; exact h1
  | true =>
    rw [ha, Bool.true_and] at h1
    obtain ⟨z, rfl⟩ := areB_str ha
    refine ⟨Nat.le_of_lt (hs z rfl), ?_⟩
    have e : decide ((z.length : Int) ≤ 1000) = decide (z.length ≤ 1000) := by
      rw [Bool.eq_iff_iff]; simp only [decide_eq_true_eq]; omega
    show q (.bl (decide ((z.length : Int) ≤ 1000))) ah'
    rw [e]
    exact h1
theorem areB_ds {b : Nat} {z : Str} (h : areB b (.str z) = true) : ∃ l, z = dg l ∧ isDs b l := by
  have hne := areB_len h
  unfold areB at h
  simp only [Bool.and_eq_true, List.all_eq_true, decide_eq_true_eq] at h
  refine ⟨z.cps.toList.map (· - 48), ?_, ?_, ?_⟩
  · apply str_ext
    rw [dg_cps, List.map_map]
    have : ∀ l : List Nat, (∀ c ∈ l, 48 ≤ c ∧ c < 48 + b) → l = l.map ((fun x => 48 + x) ∘ fun x => x - 48) := fun l => by
      induction l with
      | nil => intro _; rfl
      | cons c l ih =>
        intro hh
        have h1 := hh c (by simp)
        rw [List.map_cons, ← ih fun c hc => hh c (List.mem_cons_of_mem _ hc)]
        simp only [Function.comp]
        congr 1
        omega
    exact this _ h.2
  · intro e
    have : z.cps.toList.length = 0 := by
      have := congrArg List.length e
      simpa using this
    simp only [Str.length] at hne
    rw [Array.length_toList] at this
    omega
  · intro d hd
    obtain ⟨c, hc, rfl⟩ := List.mem_map.mp hd
    have := h.2 c hc
    omega
/-! ### completed_in -/
/-- where the next reader goes -/
def nextV (b n : Nat) (l : List Nat) : Nat := let f := n / b ^ l.length * b ^ l.length + vl b l; if n < f then f else f + b ^ l.length
def replF (b n : Nat) (l : List Nat) : Nat := if (Z.ds b n).length ≤ l.length then (if l.head? = some 0 then 0 else vl b l) else n / b ^ l.length * b ^ l.length + vl b l
def replD (b n : Nat) (l : List Nat) : D := if n < replF b n l then .int (replF b n l : Nat) else .non
def complD (z : Str) (b n : Nat) (l : List Nat) : D := if z = "next" then .int (nextV b n l : Nat) else replD b n l
structure Args4 (ds : List D) (z : Str) (b n : Nat) (l : List Nat) : Prop where
  eq : ds = [.str z, .int b, .int n, .str (dg l)]
  rd : isReader z
  b2 : 2 ≤ b
  b10 : b ≤ 10
  n1 : 1 ≤ n
  nn : n < 2 ^ 2000
  l0 : isDs b l
  len : l.length ≤ 1000
def sp_completed_in : DSp := fun ds ah q _ => ∃ z b n l, Args4 ds z b n l ∧ q (complD z b n l) ah
def w_completed_in : WS := (wSeq (wPar 4 5 (wCons (wCall sp_power [] (wCons (wVar 1) (wCons (wCal gLen (wCons (wVar 3) wNil)) wNil))) (wCons (wCall sp_value_of [] (wCons (wVar 1) (wCons (wVar 3) wNil))) wNil))) (wSeq (wAsg (wBin fAdd (wBin fMul (wBin fDiv (wVar 2) (wVar 4)) (wVar 4)) (wVar 5)) (gN 6)) (wSeq (wIf (wTst (wBin (fEq false) (wVar 0) (wC (.str "next")))) (wRet (wIfE (wTst (wBin fGt (wVar 6) (wVar 2))) (wVar 6) (wBin fAdd (wVar 6) (wVar 4)))) wNext) (wSeq (wIf (wTst (wBin fGe (wCal gLen (wCons (wVar 3) wNil)) (wCall sp_length_of [] (wCons (wVar 1) (wCons (wVar 2) wNil))))) (wAsg (wIfE (wTst (wBin (fEq true) (wBin fAt (wVar 3) (wC (.int 0))) (wC (.str "0")))) (wVar 5) (wC (.int 0))) (gN 6)) wNext) (wRet (wIfE (wTst (wBin fGt (wVar 6) (wVar 2))) (wVar 6) (wC .non)))))))
theorem wp_completed_in (ds : List D) (ah : AH) (q : QE) (x : QX) (h : sp_completed_in ds ah q x) : w_completed_in (startD 7 ds) ah { nx := fun _ ah' => q .non ah', rt := q } (fun e _ ah' => x e ah') := by
  obtain ⟨z, b, n, l, ⟨rfl, rd, h2, hb, n1, nn, hl, hm⟩, hq⟩ := h
  show w_completed_in [some (.str z), some (.int b), some (.int n), some (.str (dg l)), none, none, none] ah _ _
  have hL : (dg l).length ≤ sizeLine := size_line (by rw [dg_len]; omega)
  unfold w_completed_in
  simp only [wSeq, wPar, wCons, wCall, wVar, gt, wCal, gLen, wNil]
  refine ⟨hL, b, l.length, by rw [dg_len]; rfl, by omega, by omega, b, l, rfl, h2, hb, fun d hd => Nat.lt_of_lt_of_le (hl.2 d hd) hb, ?_⟩
  simp only [wAsg, wBin, wVar, gt, st, gN, fDiv, fMul, fAdd]
  refine ⟨div_pow hb h2 hm, mul_pow hb h2 hm nn, ?_⟩
  rw [← Int.natCast_ediv, ← Int.natCast_mul, ← Int.natCast_add]
  generalize hf : n / b ^ l.length * b ^ l.length + vl b l = f
  simp only [wIf, wTst, wBin, wVar, wC, gt, fEq]
  by_cases hz : z = "next"
  · rw [decide_eq_true hz]
    have hq' : q (.int (nextV b n l : Nat)) ah := by
      unfold complD at hq
      rw [if_pos hz] at hq
      exact hq
    unfold nextV at hq'
    simp only [hf] at hq'
    refine ite_t ?_
    simp only [wRet, wIfE, wTst, wBin, wVar, gt, fGt, fAdd]
    by_cases c : n < f
    · rw [decide_eq_true (by omega : (n : Int) < f), if_pos rfl]
      rw [if_pos c] at hq'
      exact hq'
    · rw [decide_eq_false (by omega : ¬ (n : Int) < f)]
      rw [if_neg c] at hq'
      exact hq'
  · rw [decide_eq_false hz]
    have hq' : q (replD b n l) ah := by
      unfold complD at hq
      rw [if_neg hz] at hq
      exact hq
    refine ite_f ?_
    simp only [wNext, wIf, wTst, wBin, wVar, wCal, wCons, wNil, gLen, wC, gt, wCall]
    refine ⟨hL, b, n, rfl, h2, hb, ?_⟩
    simp only [fGe, dg_len]
    have last : ∀ g : Nat, replF b n l = g → (wRet (wIfE (wTst (wBin fGt (wVar 6) (wVar 2))) (wVar 6) (wC .non))) [some (.str z), some (.int b), some (.int n), some (.str (dg l)), some (.int ((b ^ l.length : Nat) : Int)), some (.int (vl b l : Nat)), some (.int g)] ah { nx := fun _ ah' => q .non ah', rt := q } (fun e _ ah' => x e ah') := by
      intro g hg
      unfold replD at hq'
      rw [hg] at hq'
      simp only [wRet, wIfE, wTst, wBin, wVar, gt, fGt, wC]
      by_cases c : n < g
      · rw [decide_eq_true (by omega : (n : Int) < g)]
        rw [if_pos c] at hq'
        exact hq'
      · rw [decide_eq_false (by omega : ¬ (n : Int) < g)]
        rw [if_neg c] at hq'
        exact hq'
    by_cases c : (Z.ds b n).length ≤ l.length
    · rw [decide_eq_true (by omega)]
      obtain ⟨d, t, rfl⟩ := head_dg hl.1
      refine ite_t ?_
      simp only [wAsg, wIfE, wTst, wBin, wVar, wC, gt, fAt, fIx, at_zero]
      refine ⟨hL, ?_⟩
      simp only [fEq]
      by_cases d0 : d = 0
      · rw [decide_eq_true ((zero_sign d).mpr d0)]
        exact last 0 (by unfold replF; rw [if_pos c]; subst d0; rfl)
      · rw [decide_eq_false (fun e => d0 ((zero_sign d).mp e))]
        exact last (vl b (d :: t)) (by unfold replF; rw [if_pos c, if_neg (by simp [d0])])
    · rw [decide_eq_false (by omega)]
      exact last f (by unfold replF; rw [if_neg c, hf])
theorem next_ok {b n : Nat} {l : List Nat} (h2 : 2 ≤ b) (hl : ∀ d ∈ l, d < b) : n < nextV b n l ∧ nextV b n l ≤ n + b ^ l.length ∧ nextV b n l % b ^ l.length = vl b l := by
  have hv := vl_lt hl
  have hn := Nat.div_add_mod' n (b ^ l.length)
  have hr := Nat.mod_lt n (show 0 < b ^ l.length by omega)
  have e1 : (n / b ^ l.length * b ^ l.length + vl b l) % b ^ l.length = vl b l := by
    rw [Nat.mul_comm, Nat.mul_add_mod, Nat.mod_eq_of_lt hv]
  have e2 : (n / b ^ l.length * b ^ l.length + vl b l + b ^ l.length) % b ^ l.length = vl b l := by
    rw [Nat.add_mod_right]; exact e1
  unfold nextV
  dsimp only
  generalize n / b ^ l.length * b ^ l.length = k at *
  generalize n % b ^ l.length = r at *
  generalize b ^ l.length = s at *
  split
  · exact ⟨by omega, by omega, e1⟩
  · exact ⟨by omega, by omega, e2⟩
def badW (C : Str) (d : D) : XD := (C, [("value", d)])
def sp_completed : DSp := fun ds ah q x => ∃ r d e t, ds = [r, d, e, t] ∧ (tyD ah r).isSome = true ∧ (tyD ah d).isSome = true ∧ (tyD ah e).isSome = true ∧ okD ah t = true ∧
  (if readerB r = true then (if among d 2 10 = true then (if isNum e = true then
    ∀ ah', Ext ah ah' → ∀ b : Nat, d = .int b → (if tailB b t = true then ∀ z n l, r = .str z → e = .int (n : Nat) → t = .str (dg l) → n < 2 ^ 2000 ∧ q (complD z b n l) ah' else x ("BadDigits", [("value", t)]) ah')
    else x ("BadNumber", [("value", e)]) ah) else x ("BadBase", [("value", d)]) ah) else x ("BadReader", [("value", r)]) ah)
def w_completed : WS := (wSeq (wExpr (wCall sp_need_reader [] (wCons (wVar 0) wNil))) (wSeq (wExpr (wCall sp_need_base [] (wCons (wVar 1) wNil))) (wSeq (wExpr (wCall sp_need_number [] (wCons (wVar 2) wNil))) (wSeq (wIf (wNot (wTst (wCall sp_is_tail [] (wCons (wVar 1) (wCons (wVar 3) wNil))))) (wRaise "BadDigits" ["value"] (wCons (wVar 3) wNil)) wNext) (wRet (wCall sp_completed_in [] (wCons (wVar 0) (wCons (wVar 1) (wCons (wVar 2) (wCons (wVar 3) wNil))))))))))
theorem amongB {d : D} (h : among d 2 10 = true) : ∃ b : Nat, d = .int b ∧ 2 ≤ b ∧ b ≤ 10 := by
  unfold among at h
  split at h
  · rename_i i
    simp only [Bool.and_eq_true, decide_eq_true_eq] at h
    exact ⟨i.toNat, by rw [Int.toNat_of_nonneg (by omega)], by omega, by omega⟩
  · cases h
theorem among_of {b : Nat} (h2 : 2 ≤ b) (hb : b ≤ 10) : among (.int b) 2 10 = true := by
  unfold among
  simp only [Bool.and_eq_true, decide_eq_true_eq]
  omega
theorem isNum_nat {d : D} (h : isNum d = true) : ∃ n : Nat, d = .int n ∧ 1 ≤ n := by
  obtain ⟨i, rfl, hi⟩ := isNum_int h
  exact ⟨i.toNat, by rw [Int.toNat_of_nonneg (by omega)], by omega⟩
theorem isNum_of {n : Nat} (h : 1 ≤ n) : isNum (.int n) = true := by
  unfold isNum
  simp only [decide_eq_true_eq]
  omega
theorem tailB_ds {b : Nat} {t : D} (h : tailB b t = true) : ∃ l, t = .str (dg l) ∧ isDs b l ∧ l.length ≤ 1000 := by
  unfold tailB at h
  rw [Bool.and_eq_true] at h
  obtain ⟨z, rfl⟩ := areB_str h.1
  obtain ⟨l, rfl, hl⟩ := areB_ds h.1
  have := of_decide_eq_true h.2
  rw [dg_len] at this
  exact ⟨l, rfl, hl, this⟩
theorem tailB_of {b : Nat} {l : List Nat} (h : isDs b l) (hl : l.length ≤ 1000) : tailB b (.str (dg l)) = true := by
  unfold tailB
  rw [areB_dg h.1 h.2]
  show decide _ = true
  rw [dg_len]
  exact decide_eq_true hl
theorem wp_completed (ds : List D) (ah : AH) (q : QE) (x : QX) (h : sp_completed ds ah q x) : w_completed (startD 4 ds) ah { nx := fun _ ah' => q .non ah', rt := q } (fun e _ ah' => x e ah') := by
  obtain ⟨r, d, e, t, rfl, t1, t2, t3, ok, hq⟩ := h
  show w_completed [some r, some d, some e, some t] ah _ _
  refine ⟨r, rfl, t1, ?_⟩
  cases hr : readerB r with
  | false => rw [hr, if_neg (by decide)] at hq; rw [if_neg (by decide)]; exact hq
  | true =>
    rw [hr, if_pos rfl] at hq
    rw [if_pos rfl]
    refine ⟨d, rfl, t2, ?_⟩
    cases hd : among d 2 10 with
    | false => rw [hd, if_neg (by decide)] at hq; rw [if_neg (by decide)]; exact hq
    | true =>
      rw [hd, if_pos rfl] at hq
      rw [if_pos rfl]
      refine ⟨e, rfl, t3, ?_⟩
      cases he : isNum e with
      | false => rw [he, if_neg (by decide)] at hq; rw [if_neg (by decide)]; exact hq
      | true =>
        rw [he, if_pos rfl] at hq
        rw [if_pos rfl]
        obtain ⟨b, rfl, h2, hb⟩ := amongB hd
        obtain ⟨z, rfl, hz⟩ := readerB_str hr
        obtain ⟨n, rfl, n1⟩ := isNum_nat he
        refine ⟨b, t, rfl, h2, hb, okD_ty ok, okD_short ok, fun ah1 x1 => ?_⟩
        have h1 := hq ah1 x1 b rfl
        cases ht : tailB b t with
        | false =>
          rw [ht, if_neg (by decide)] at h1
          exact ite_t ⟨rfl, by decide, h1⟩
        | true =>
          rw [ht, if_pos rfl] at h1
          obtain ⟨l, rfl, hl, hm⟩ := tailB_ds ht
          obtain ⟨nn, h3⟩ := h1 z n l rfl rfl rfl
          exact ite_f ⟨z, b, n, l, ⟨rfl, hz, h2, hb, n1, nn, hl, hm⟩, h3⟩
theorem compl_call {z : Str} {b n : Nat} {l : List Nat} {ah : AH} {q : QE} {x : QX} (hz : isReader z) (h2 : 2 ≤ b) (hb : b ≤ 10) (n1 : 1 ≤ n) (nn : n < 2 ^ 2000) (hl : isDs b l) (hm : l.length ≤ 1000) (hq : ∀ ah', Ext ah ah' → q (complD z b n l) ah') :
    sp_completed [.str z, .int b, .int n, .str (dg l)] ah q x := by
  refine ⟨_, _, _, _, rfl, rfl, rfl, rfl, ?_, ?_⟩
  · unfold okD
    rw [dg_len]
    exact decide_eq_true (Nat.lt_of_le_of_lt hm (by decide))
  · rw [readerB_of hz, if_pos rfl, among_of h2 hb, if_pos rfl, isNum_of n1, if_pos rfl]
    intro ah' x1 b' eb
    have : b = b' := by injection eb with eb; omega
    subst this
    rw [tailB_of hl hm, if_pos rfl]
    intro z' n' l' e1 e2 e3
    have en : n = n' := by injection e2 with e2; omega
    have ez : z = z' := by injection e1
    have el : l = l' := dg_inj (by injection e3)
    subst en ez el
    exact ⟨nn, hq _ x1⟩
/-! ### fewest -/
def few (z : Str) (b f s : Nat) : Nat := if z = "next" then max 1 (nr b (s - f)) else chg b f s
def sp_fewest_in : DSp := fun ds ah q _ => ∃ (z : Str) (b f s : Nat), ds = [.str z, .int b, .int f, .int s] ∧ Rg b f s ∧ ∀ ah', Ext ah ah' → q (.int (few z b f s : Nat)) ah'
def w_fewest_in : WS := (wRet (wIfE (wTst (wBin (fEq false) (wVar 0) (wC (.str "next")))) (wCal gMax2 (wCons (wC (.int 1)) (wCons (wCall sp_near_in [] (wCons (wVar 1) (wCons (wVar 2) (wCons (wVar 3) wNil)))) wNil))) (wCall sp_changed_in [] (wCons (wVar 1) (wCons (wVar 2) (wCons (wVar 3) wNil))))))
theorem wp_fewest_in (ds : List D) (ah : AH) (q : QE) (x : QX) (h : sp_fewest_in ds ah q x) : w_fewest_in (startD 4 ds) ah { nx := fun _ ah' => q .non ah', rt := q } (fun e _ ah' => x e ah') := by
  obtain ⟨z, b, f, s, rfl, r, hq⟩ := h
  show w_fewest_in [some (.str z), some (.int (b : Nat)), some (.int (f : Nat)), some (.int (s : Nat))] ah _ _
  unfold w_fewest_in
  simp only [wSeq, wAsg, wLst, wCons, wNil, wCall, wBin, wVar, wC, gt, st, gN, newL, wExpr, wMet, wTst, wIf, wRet, wNext, wTup, wCal, wNot, wAnd, wOr, wAndV, wOrV, wNotV, wIfE, wPar, wPar3, gT, gsC, gsN, wFld, fFld, wCMeth, wSl, wPart, wNoPart, wFor, wIter, fIter, wLc, nos, no, wRng1, wRng2, wChain, wNeg, wStar, wPut, wSetF, wAug, wYes, wEnum, atE, fEq]
  by_cases hz : z = "next"
  · rw [decide_eq_true hz]
    refine ite_t ⟨b, f, s, rfl, r.b2, r.b10, r.lt, ?_⟩
    have := hq _ Ext.refl
    unfold few at this
    rw [if_pos hz] at this
    show q (.int (if ((nr b (s - f) : Nat) : Int) > 1 then ((nr b (s - f) : Nat) : Int) else 1)) ah
    have e : (if ((nr b (s - f) : Nat) : Int) > 1 then ((nr b (s - f) : Nat) : Int) else 1) = ((max 1 (nr b (s - f)) : Nat) : Int) := by split <;> omega
    rw [e]
    exact this
  · rw [decide_eq_false hz]
    refine ite_f ⟨b, f, s, rfl, r, fun ah1 x1 => ?_⟩
    have := hq _ x1
    unfold few at this
    rw [if_neg hz] at this
    exact this
def sp_fewest : DSp := fun ds ah q x => ∃ r d e g, ds = [r, d, e, g] ∧ (tyD ah r).isSome = true ∧ (tyD ah d).isSome = true ∧ (tyD ah e).isSome = true ∧ (tyD ah g).isSome = true ∧
  (if readerB r = true then (if among d 2 10 = true then (if rangeB e g = true then
    ∀ ah', Ext ah ah' → ∀ (z : Str) (b f s : Nat), r = .str z → d = .int b → e = .int f → g = .int s → (Z.ds b s).length ≤ 10000 ∧ q (.int (few z b f s : Nat)) ah'
    else x ("BadRange", [("value", .tup [e, g])]) ah) else x ("BadBase", [("value", d)]) ah) else x ("BadReader", [("value", r)]) ah)
def w_fewest : WS := (wSeq (wExpr (wCall sp_need_reader [] (wCons (wVar 0) wNil))) (wSeq (wExpr (wCall sp_need_base [] (wCons (wVar 1) wNil))) (wSeq (wExpr (wCall sp_need_range [] (wCons (wVar 2) (wCons (wVar 3) wNil)))) (wRet (wCall sp_fewest_in [] (wCons (wVar 0) (wCons (wVar 1) (wCons (wVar 2) (wCons (wVar 3) wNil)))))))))
theorem wp_fewest (ds : List D) (ah : AH) (q : QE) (x : QX) (h : sp_fewest ds ah q x) : w_fewest (startD 4 ds) ah { nx := fun _ ah' => q .non ah', rt := q } (fun e _ ah' => x e ah') := by
  obtain ⟨r, d, e, g, rfl, t1, t2, t3, t4, hq⟩ := h
  show w_fewest [some r, some d, some e, some g] ah _ _
  refine ⟨r, rfl, t1, ?_⟩
  cases hr : readerB r with
  | false => rw [hr, if_neg (by decide)] at hq; rw [if_neg (by decide)]; exact hq
  | true =>
    rw [hr, if_pos rfl] at hq
    rw [if_pos rfl]
    refine ⟨d, rfl, t2, ?_⟩
    cases hd : among d 2 10 with
    | false => rw [hd, if_neg (by decide)] at hq; rw [if_neg (by decide)]; exact hq
    | true =>
      rw [hd, if_pos rfl] at hq
      rw [if_pos rfl]
      refine ⟨e, g, rfl, t3, t4, ?_⟩
      cases he : rangeB e g with
      | false => rw [he, if_neg (by decide)] at hq; rw [if_neg (by decide)]; exact hq
      | true =>
        rw [he, if_pos rfl] at hq
        rw [if_pos rfl]
        obtain ⟨b, rfl, h2, hb⟩ := amongB hd
        obtain ⟨z, rfl, hz⟩ := readerB_str hr
        obtain ⟨f, s, rfl, rfl, f1, lt⟩ := rangeB_nat he
        have hl := (hq _ Ext.refl z b f s rfl rfl rfl rfl).1
        exact ⟨z, b, f, s, rfl, ⟨h2, hb, f1, lt, hl⟩, fun ah1 x1 => (hq _ x1 z b f s rfl rfl rfl rfl).2⟩
theorem few_call {z : Str} {b f s : Nat} {ah : AH} {q : QE} {x : QX} (hz : isReader z) (r : Rg b f s) (hq : ∀ ah', Ext ah ah' → q (.int (few z b f s : Nat)) ah') : sp_fewest [.str z, .int b, .int f, .int s] ah q x := by
  refine ⟨_, _, _, _, rfl, rfl, rfl, rfl, rfl, ?_⟩
  rw [readerB_of hz, if_pos rfl, among_of r.b2 r.b10, if_pos rfl, rangeB_of r.f1 r.lt, if_pos rfl]
  intro ah' x1 z' b' f' s' e1 e2 e3 e4
  have ez : z = z' := by injection e1
  have eb : b = b' := by injection e2 with e2; omega
  have ef : f = f' := by injection e3 with e2; omega
  have es : s = s' := by injection e4 with e2; omega
  subst ez eb ef es
  exact ⟨r.len, hq _ x1⟩
end Z
namespace Z
open PySem PySem.Spec PyProof.Rows L2
/-! ### which tails are completed to the second number -/
/-- the last m digits of a number -/
def lastL (b s m : Nat) : List Nat := (Z.ds b s).drop ((Z.ds b s).length - m)
theorem lastL_len {b s m : Nat} (h : m ≤ (Z.ds b s).length) : (lastL b s m).length = m := by unfold lastL; simp; omega
theorem lastL_ds {b s m : Nat} (h2 : 2 ≤ b) (h1 : 1 ≤ m) (h : m ≤ (Z.ds b s).length) : isDs b (lastL b s m) :=
  ⟨fun e => by have := lastL_len h; rw [e] at this; simp at this; omega, fun d hd => ds_lt h2 s d (List.mem_of_mem_drop hd)⟩
theorem next_right {b f s m : Nat} (r : Rg b f s) (h : m ≤ (Z.ds b s).length) : nextV b f (lastL b s m) = s ↔ nr b (s - f) ≤ m := by
  have hv := (ds_take (n := s) r.b2 h).2
  have hl := lastL_len h
  obtain ⟨g1, g2, g3⟩ := next_ok (n := f) (l := lastL b s m) r.b2 (fun d hd => ds_lt r.b2 s d (List.mem_of_mem_drop hd))
  rw [hl] at g2 g3
  rw [nr_le r.b2]
  have hlt := r.lt
  constructor
  · intro e; rw [e] at g2; omega
  · intro e
    have g3' : nextV b f (lastL b s m) % b ^ m = s % b ^ m := g3.trans hv
    generalize nextV b f (lastL b s m) = y at g1 g2 g3'
    have p : 0 < b ^ m := Nat.pow_pos (by have := r.b2; omega)
    have a1 := Nat.div_add_mod y (b ^ m)
    have a2 := Nat.div_add_mod s (b ^ m)
    generalize b ^ m = k at *
    rcases Nat.lt_trichotomy (y / k) (s / k) with c | c | c
    · have : k * (y / k + 1) ≤ k * (s / k) := Nat.mul_le_mul_left _ c
      rw [Nat.mul_add] at this
      omega
    · rw [c] at a1; omega
    · have : k * (s / k + 1) ≤ k * (y / k) := Nat.mul_le_mul_left _ c
      rw [Nat.mul_add] at this
      omega
theorem ds_div {b n m : Nat} (h2 : 2 ≤ b) (hm : m ≤ (Z.ds b n).length) : Z.ds b (n / b ^ m) = (Z.ds b n).take ((Z.ds b n).length - m) := by
  rw [← (ds_take h2 hm).1]
  refine ds_vl h2 _ (fun d hd => ds_lt h2 n d (List.mem_of_mem_take hd)) fun h t e => ?_
  cases hd : Z.ds b n with
  | nil => rw [hd] at e; simp at e
  | cons y ys =>
    rw [hd] at e
    cases hk : (y :: ys).length - m with
    | zero => rw [hk] at e; simp at e
    | succ k =>
      rw [hk, List.take_succ_cons] at e
      have := (List.cons.inj e).1
      rw [← this]
      exact ds_head h2 y ys hd
theorem take_cpl : ∀ {l m : List Nat} {k : Nat}, k ≤ l.length → k ≤ m.length → (l.take k = m.take k ↔ k ≤ cpl l m)
  | l, m, 0, _, _ => by simp
  | [], m, k + 1, h, _ => by simp at h
  | _ :: _, [], k + 1, _, h => by simp at h
  | x :: l, y :: m, k + 1, h1, h2 => by
    rw [List.take_succ_cons, List.take_succ_cons]
    by_cases e : x = y
    · subst e
      rw [cpl_eq]
      have ih := take_cpl (l := l) (m := m) (k := k) (by simpa using h1) (by simpa using h2)
      constructor
      · intro z; have := ih.mp (List.cons.inj z).2; omega
      · intro z; rw [ih.mpr (by omega)]
    · rw [cpl_ne e]
      constructor
      · intro z; exact absurd (List.cons.inj z).1 e
      · intro z; omega
theorem repl_right {b f s m : Nat} (r : Rg b f s) (h1 : 1 ≤ m) (h : m ≤ (Z.ds b s).length) : replD b f (lastL b s m) = .int (s : Nat) ↔ chg b f s ≤ m := by
  have h2 := r.b2
  have hlt := r.lt
  have hv : vl b (lastL b s m) = s % b ^ m := (ds_take h2 h).2
  have hl := lastL_len h
  have lo := ds_lo h2 (show 0 < s by omega)
  have up := ds_len (b := b) (n := s) h2
  have mono := ds_mono (b := b) h2 (Nat.le_of_lt hlt)
  have pm : 0 < b ^ m := Nat.pow_pos (by omega)
  have key : replF b f (lastL b s m) = s ↔ chg b f s ≤ m := by
    unfold replF
    rw [hl, hv]
    by_cases e : m = (Z.ds b s).length
    · have e0 : lastL b s m = Z.ds b s := by unfold lastL; rw [e, Nat.sub_self, List.drop_zero]
      have hc := (chg_bounds r).2
      rw [if_pos (by omega), e0]
      have hh : (Z.ds b s).head? ≠ some 0 := by
        cases hd : Z.ds b s with
        | nil => simp
        | cons y ys => intro z; exact ds_head h2 y ys hd (by simpa using z)
      rw [if_neg hh, Nat.mod_eq_of_lt (by rw [e]; exact up)]
      exact ⟨fun _ => by omega, fun _ => rfl⟩
    · have hm : m < (Z.ds b s).length := by omega
      have hs : b ^ m ≤ s := Nat.le_trans (Nat.pow_le_pow_right (by omega) (by omega)) lo
      have hmod := Nat.mod_lt s pm
      by_cases c : (Z.ds b f).length ≤ m
      · rw [if_pos c]
        have hch : chg b f s = (Z.ds b s).length := by unfold chg; rw [if_neg (by omega)]
        rw [hch]
        constructor
        · intro z; split at z <;> omega
        · intro z; omega
      · rw [if_neg c]
        have a2 := Nat.div_add_mod' s (b ^ m)
        have eq1 : f / b ^ m * b ^ m + s % b ^ m = s ↔ f / b ^ m = s / b ^ m := by
          constructor
          · intro z
            have : f / b ^ m * b ^ m = s / b ^ m * b ^ m := by omega
            exact Nat.eq_of_mul_eq_mul_right pm this
          · intro z; rw [z]; exact a2
        rw [eq1]
        have e1 := ds_div (n := f) h2 (show m ≤ (Z.ds b f).length by omega)
        have e2 := ds_div (n := s) h2 h
        have eq2 : f / b ^ m = s / b ^ m ↔ Z.ds b (f / b ^ m) = Z.ds b (s / b ^ m) := by
          constructor
          · intro z; rw [z]
          · intro z
            have := congrArg (vl b) z
            rwa [vl_ds h2, vl_ds h2] at this
        rw [eq2, e1, e2]
        by_cases el : (Z.ds b f).length = (Z.ds b s).length
        · rw [el, take_cpl (by omega) (by omega)]
          unfold chg
          rw [if_pos el]
          have := cpl_lt el r.ne
          omega
        · have hch : chg b f s = (Z.ds b s).length := by unfold chg; rw [if_neg el]
          rw [hch]
          constructor
          · intro z
            have := congrArg List.length z
            simp at this
            omega
          · intro z; omega
  unfold replD
  constructor
  · intro z
    split at z
    · exact key.mp (by injection z with z; omega)
    · cases z
  · intro z
    rw [key.mpr z, if_pos hlt]
theorem compl_right {z : Str} {b f s m : Nat} (r : Rg b f s) (h1 : 1 ≤ m) (h : m ≤ (Z.ds b s).length) : complD z b f (lastL b s m) = .int (s : Nat) ↔ few z b f s ≤ m := by
  unfold complD few
  by_cases hz : z = "next"
  · rw [if_pos hz, if_pos hz]
    have := next_right r h
    constructor
    · intro e
      have := this.mp (by injection e with e; omega)
      omega
    · intro e
      rw [this.mpr (by omega)]
  · rw [if_neg hz, if_neg hz]
    exact repl_right r h1 h
theorem few_le {z : Str} {b f s : Nat} (r : Rg b f s) : 1 ≤ few z b f s ∧ few z b f s ≤ (Z.ds b s).length := by
  have hc := chg_bounds r
  have hlt := r.lt
  unfold few
  split
  · have : nr b (s - f) ≤ (Z.ds b s).length := (nr_le r.b2).mpr (by have := ds_len (b := b) (n := s) r.b2; omega)
    omega
  · exact hc
/-- == s -/
theorem eq_compl {neg : Bool} {z : Str} {b f : Nat} {l : List Nat} {s : Nat} {p : Prop} [Decidable p] {ah : AH} {q : QE} (h : complD z b f l = .int (s : Nat) ↔ p) (hq : q (.bl (neg != decide p)) ah) : fEq neg (complD z b f l) (.int (s : Nat)) ah q := by
  have cases_ : (∃ k : Nat, complD z b f l = .int (k : Nat)) ∨ complD z b f l = .non := by
    unfold complD replD
    split
    · exact .inl ⟨_, rfl⟩
    · split
      · exact .inl ⟨_, rfl⟩
      · exact .inr rfl
  rcases cases_ with ⟨k, e⟩ | e
  · rw [e] at h ⊢
    show q (.bl (neg != decide ((k : Int) = (s : Int)))) ah
    have : decide ((k : Int) = (s : Int)) = decide p := by
      rw [Bool.eq_iff_iff, decide_eq_true_eq, decide_eq_true_eq, ← h]
      constructor
      · intro e; rw [e]
      · intro e; injection e
    rw [this]
    exact hq
  · rw [e] at h ⊢
    have : decide p = false := decide_eq_false fun hp => by have := h.mpr hp; cases this
    rw [this] at hq
    cases neg <;> exact hq
/-! ### is_right -/
theorem tailL_last {b f s : Nat} {rs : List D} : tailL b rs f s = lastL b s (keptS b rs f s) := rfl
def sp_is_right_in : DSp := fun ds ah q _ => ∃ (n b f s : Nat) (rs : List D) (z : Str), ds = [.ref n, .str z, .int f, .int s] ∧ ah[n]? = some (styO (.int b) rs) ∧ OkR b rs ∧ Rg b f s ∧ (Z.ds b s).length ≤ 1000 ∧ f < 2 ^ 2000 ∧ isReader z ∧ ∀ ah', Ext ah ah' → q (.bl (decide (few z b f s ≤ keptS b rs f s))) ah'
def w_is_right_in : WS := (wRet (wBin (fEq false) (wCall sp_completed_in [] (wCons (wVar 1) (wCons (wFld ["Style"] "own_base" (wVar 0)) (wCons (wVar 2) (wCons (wMeth "Style" "tail" sp_Style_tail (wVar 0) (wCons (wVar 2) (wCons (wVar 3) wNil))) wNil))))) (wVar 3)))
theorem wp_is_right_in (ds : List D) (ah : AH) (q : QE) (x : QX) (h : sp_is_right_in ds ah q x) : w_is_right_in (startD 4 ds) ah { nx := fun _ ah' => q .non ah', rt := q } (fun e _ ah' => x e ah') := by
  obtain ⟨n, b, f, s, rs, z, rfl, hn, o, r, hl, fs, hz, hq⟩ := h
  show w_is_right_in [some (.ref n), some (.str z), some (.int (f : Nat)), some (.int (s : Nat))] ah _ _
  unfold w_is_right_in
  simp only [wSeq, wAsg, wLst, wCons, wNil, wCall, wBin, wVar, wC, gt, st, gN, newL, wExpr, wMet, wTst, wIf, wRet, wNext, wTup, wCal, wNot, wAnd, wOr, wAndV, wOrV, wNotV, wIfE, wPar, wPar3, gT, gsC, gsN, wFld, fFld, wCMeth, wSl, wPart, wNoPart, wFor, wIter, fIter, wLc, nos, no, wRng1, wRng2, wChain, wNeg, wStar, wPut, wSetF, wAug, wYes, wEnum, atE, wMeth, hn, look_base]
  refine ⟨by simp, insSty hn mne.2.2.2.2.1 mne.2.2.2.2.2 ?_⟩
  refine tail_call r o hn fun ah1 x1 => ?_
  have hk := keptS_bounds o r
  rw [tailL_last]
  refine ⟨z, b, f, lastL b s (keptS b rs f s), ⟨rfl, hz, r.b2, r.b10, r.f1, fs, lastL_ds r.b2 hk.1 hk.2, by rw [lastL_len hk.2]; omega⟩, ?_⟩
  refine eq_compl (compl_right r hk.1 hk.2) ?_
  rw [Bool.false_bne]
  exact hq _ x1
def sp_is_right : DSp := fun ds ah q x => ∃ (n b : Nat) (rs : List D) (r d e : D), ds = [.ref n, r, d, e] ∧ ah[n]? = some (styO (.int b) rs) ∧ OkR b rs ∧ 2 ≤ b ∧ b ≤ 10 ∧ (tyD ah r).isSome = true ∧ (tyD ah d).isSome = true ∧ (tyD ah e).isSome = true ∧
  (if readerB r = true then (if rangeB d e = true then
    ∀ ah', Ext ah ah' → ∀ (z : Str) (f s : Nat), r = .str z → d = .int f → e = .int s → (Z.ds b s).length ≤ 1000 ∧ f < 2 ^ 2000 ∧ q (.bl (decide (few z b f s ≤ keptS b rs f s))) ah'
    else x ("BadRange", [("value", .tup [d, e])]) ah) else x ("BadReader", [("value", r)]) ah)
def w_is_right : WS := (wSeq (wExpr (wCall sp_need_reader [] (wCons (wVar 1) wNil))) (wSeq (wExpr (wCall sp_need_range [] (wCons (wVar 2) (wCons (wVar 3) wNil)))) (wRet (wCall sp_is_right_in [] (wCons (wVar 0) (wCons (wVar 1) (wCons (wVar 2) (wCons (wVar 3) wNil))))))))
theorem wp_is_right (ds : List D) (ah : AH) (q : QE) (x : QX) (h : sp_is_right ds ah q x) : w_is_right (startD 4 ds) ah { nx := fun _ ah' => q .non ah', rt := q } (fun e _ ah' => x e ah') := by
  obtain ⟨n, b, rs, r, d, e, rfl, hn, o, h2, hb, t1, t2, t3, hq⟩ := h
  show w_is_right [some (.ref n), some r, some d, some e] ah _ _
  refine ⟨r, rfl, t1, ?_⟩
  cases hr : readerB r with
  | false => rw [hr, if_neg (by decide)] at hq; rw [if_neg (by decide)]; exact hq
  | true =>
    rw [hr, if_pos rfl] at hq
    rw [if_pos rfl]
    refine ⟨d, e, rfl, t2, t3, ?_⟩
    cases he : rangeB d e with
    | false => rw [he, if_neg (by decide)] at hq; rw [if_neg (by decide)]; exact hq
    | true =>
      rw [he, if_pos rfl] at hq
      rw [if_pos rfl]
      obtain ⟨z, rfl, hz⟩ := readerB_str hr
      obtain ⟨f, s, rfl, rfl, f1, lt⟩ := rangeB_nat he
      obtain ⟨hl, fs, _⟩ := hq _ Ext.refl z f s rfl rfl rfl
      exact ⟨n, b, f, s, rs, z, rfl, hn, o, ⟨h2, hb, f1, lt, by omega⟩, hl, fs, hz, fun ah1 x1 => (hq _ x1 z f s rfl rfl rfl).2.2⟩
theorem right_call {n b f s : Nat} {rs : List D} {z : Str} {ah : AH} {q : QE} {x : QX} (hn : ah[n]? = some (styO (.int b) rs)) (o : OkR b rs) (r : Rg b f s) (hl : (Z.ds b s).length ≤ 1000) (fs : f < 2 ^ 2000) (hz : isReader z) (hq : ∀ ah', Ext ah ah' → q (.bl (decide (few z b f s ≤ keptS b rs f s))) ah') :
    sp_is_right [.ref n, .str z, .int f, .int s] ah q x := by
  refine ⟨n, b, rs, _, _, _, rfl, hn, o, r.b2, r.b10, rfl, rfl, rfl, ?_⟩
  rw [readerB_of hz, if_pos rfl, rangeB_of r.f1 r.lt, if_pos rfl]
  intro ah' x1 z' f' s' e1 e3 e4
  have ez : z = z' := by injection e1
  have ef : f = f' := by injection e3 with e2; omega
  have es : s = s' := by injection e4 with e2; omega
  subst ez ef es
  exact ⟨hl, fs, hq _ x1⟩
end Z
namespace Z
open PySem PySem.Spec PyProof.Rows L2
theorem nr_len {b f s : Nat} (r : Rg b f s) : nr b (s - f) ≤ (Z.ds b s).length := (nr_le r.b2).mpr (by have := ds_len (b := b) (n := s) r.b2; omega)
def sp__law_near : DSp := fun ds ah q _ => ∃ b f s : Nat, ds = [.int b, .int f, .int s] ∧ Rg b f s ∧ q (.int (nr b (s - f) : Nat)) ah
def w__law_near : WS := (wSeq (wAsg (wC (.int 0)) (gN 3)) (wSeq (wWhile (wTst (wBin fLt (wCall sp__law_power [] (wCons (wVar 0) (wCons (wVar 3) wNil))) (wBin fSub (wVar 2) (wVar 1)))) (wAsg (wBin fAdd (wVar 3) (wC (.int 1))) (gN 3))) (wRet (wVar 3))))
theorem wp__law_near (ds : List D) (ah : AH) (q : QE) (x : QX) (h : sp__law_near ds ah q x) : w__law_near (startD 4 ds) ah { nx := fun _ ah' => q .non ah', rt := q } (fun e _ ah' => x e ah') := by
  obtain ⟨b, f, s, rfl, r, hq⟩ := h
  show w__law_near [some (.int b), some (.int f), some (.int s), none] ah _ _
  unfold w__law_near
  simp only [wSeq, wAsg, wC, gN, st]
  have hn := nr_len r
  have hlen := r.len
  have hb := r.b10
  have hlt := r.lt
  refine ⟨fun m env ah' => ah' = ah ∧ ∃ k : Nat, env = [some (.int b), some (.int f), some (.int s), some (.int k)] ∧ k ≤ nr b (s - f) ∧ m = nr b (s - f) - k, ⟨_, rfl, 0, rfl, by omega, rfl⟩, ?_⟩
  rintro m env ah' ⟨rfl, k, rfl, hk, hm⟩
  obtain ⟨g1, g2⟩ := nr_spec (d := s - f) r.b2
  simp only [wSeq, wAsg, wLst, wCons, wNil, wCall, wBin, wVar, wC, gt, st, gN, newL, wExpr, wMet, wTst, wIf, wRet, wNext, wTup, wCal, wNot, wAnd, wOr, wAndV, wOrV, wNotV, wIfE, wPar, wPar3, gT, gsC, gsN, wFld, fFld, wCMeth, wSl, wPart, wNoPart, wFor, wIter, fIter, wLc, nos, no, wRng1, wRng2, wChain, wNeg, wStar, wPut, wSetF, wAug, wYes, wEnum, atE, fSub, fLt]
  refine ⟨b, k, rfl, by omega, by omega, ?_⟩
  by_cases c : k < nr b (s - f)
  · have := g2 k c
    simp only [decide_eq_true (by omega : ((b ^ k : Nat) : Int) < (s : Int) - f)]
    refine ⟨m - 1, by omega, rfl, k + 1, ?_, by omega, by omega⟩
    simp only [Int.natCast_add, Int.natCast_one]
  · have : k = nr b (s - f) := by omega
    rw [← this] at g1
    simp only [decide_eq_false (by omega : ¬ ((b ^ k : Nat) : Int) < (s : Int) - f)]
    rw [← this] at hq
    first
      | exact hq
      | exact ite_f hq
/-! ### drawn ranges -/
def sp__law_range : DSp := fun ds ah q _ => ∃ b many a : Nat, ds = [.ref 3, .int b, .int many] ∧ 2 ≤ b ∧ b ≤ 10 ∧ 1 ≤ many ∧ many ≤ 200 ∧ SI a ah ∧ a < 2 ^ 39 ∧
  ∀ (f s a' : Nat) (ah' : AH), 1 ≤ f → f < s → f < b ^ many → s < b ^ (many + 12) → a' ≤ a + 2 * many + 30 → SI a' ah' → Fm ah ah' → q (.tup [.int f, .int s]) ah'
def w__law_range : WS := (wSeq (wAsg (wC (.int 0)) (gN 3)) (wSeq (wFor (wRng1 (wCons (wBin fAdd (wC (.int 1)) (wCall sp__law_draw [] (wCons (wVar 0) (wCons (wVar 2) wNil)))) wNil)) (gN 4) (wAsg (wBin fAdd (wBin fMul (wVar 3) (wVar 1)) (wBin fAt (wLst (wCons (wCall sp__law_draw [] (wCons (wVar 0) (wCons (wVar 1) wNil))) (wCons (wC (.int 0)) (wCons (wBin fSub (wVar 1) (wC (.int 1))) wNil)))) (wCall sp__law_draw [] (wCons (wVar 0) (wCons (wC (.int 3)) wNil))))) (gN 3))) (wSeq (wPar 3 5 (wCons (wCal gMax2 (wCons (wC (.int 1)) (wCons (wVar 3) wNil))) (wCons (wCall sp__law_power [] (wCons (wVar 1) (wCons (wCall sp__law_draw [] (wCons (wVar 0) (wCons (wBin fAdd (wVar 2) (wC (.int 2))) wNil))) wNil))) wNil))) (wSeq (wAsg (wBin fAdd (wC (.int 1)) (wCall sp__law_draw [] (wCons (wVar 0) (wCons (wBin fAt (wLst (wCons (wC (.int 2)) (wCons (wBin fMul (wVar 1) (wVar 1)) (wCons (wC (.int 1000)) wNil)))) (wCall sp__law_draw [] (wCons (wVar 0) (wCons (wC (.int 3)) wNil)))) wNil)))) (gN 6)) (wSeq (wAsg (wCall sp__law_draw [] (wCons (wVar 0) (wCons (wC (.int 4)) wNil))) (gN 7)) (wSeq (wIf (wTst (wBin (fEq false) (wVar 7) (wC (.int 0)))) (wRet (wTup (wCons (wVar 3) (wCons (wBin fAdd (wVar 3) (wVar 6)) wNil)))) wNext) (wSeq (wIf (wTst (wBin (fEq false) (wVar 7) (wC (.int 1)))) (wRet (wTup (wCons (wVar 3) (wCons (wBin fAdd (wVar 3) (wVar 5)) wNil)))) wNext) (wSeq (wIf (wTst (wBin (fEq false) (wVar 7) (wC (.int 2)))) (wRet (wTup (wCons (wVar 3) (wCons (wBin fSub (wBin fAdd (wBin fMul (wBin fAdd (wBin fDiv (wVar 3) (wVar 5)) (wC (.int 1))) (wVar 5)) (wVar 6)) (wC (.int 1))) wNil)))) wNext) (wRet (wTup (wCons (wVar 3) (wCons (wBin fAdd (wVar 3) (wBin fMul (wVar 5) (wVar 6))) wNil))))))))))))
def w_rg1 : WS := (wAsg (wBin fAdd (wBin fMul (wVar 3) (wVar 1)) (wBin fAt (wLst (wCons (wCall sp__law_draw [] (wCons (wVar 0) (wCons (wVar 1) wNil))) (wCons (wC (.int 0)) (wCons (wBin fSub (wVar 1) (wC (.int 1))) wNil)))) (wCall sp__law_draw [] (wCons (wVar 0) (wCons (wC (.int 3)) wNil))))) (gN 3))
def w_rg3 : WS := (wSeq (wAsg (wCall sp__law_draw [] (wCons (wVar 0) (wCons (wC (.int 4)) wNil))) (gN 7)) (wSeq (wIf (wTst (wBin (fEq false) (wVar 7) (wC (.int 0)))) (wRet (wTup (wCons (wVar 3) (wCons (wBin fAdd (wVar 3) (wVar 6)) wNil)))) wNext) (wSeq (wIf (wTst (wBin (fEq false) (wVar 7) (wC (.int 1)))) (wRet (wTup (wCons (wVar 3) (wCons (wBin fAdd (wVar 3) (wVar 5)) wNil)))) wNext) (wSeq (wIf (wTst (wBin (fEq false) (wVar 7) (wC (.int 2)))) (wRet (wTup (wCons (wVar 3) (wCons (wBin fSub (wBin fAdd (wBin fMul (wBin fAdd (wBin fDiv (wVar 3) (wVar 5)) (wC (.int 1))) (wVar 5)) (wVar 6)) (wC (.int 1))) wNil)))) wNext) (wRet (wTup (wCons (wVar 3) (wCons (wBin fAdd (wVar 3) (wBin fMul (wVar 5) (wVar 6))) wNil))))))))
def w_rg2 : WS := (wSeq (wPar 3 5 (wCons (wCal gMax2 (wCons (wC (.int 1)) (wCons (wVar 3) wNil))) (wCons (wCall sp__law_power [] (wCons (wVar 1) (wCons (wCall sp__law_draw [] (wCons (wVar 0) (wCons (wBin fAdd (wVar 2) (wC (.int 2))) wNil))) wNil))) wNil))) (wSeq (wAsg (wBin fAdd (wC (.int 1)) (wCall sp__law_draw [] (wCons (wVar 0) (wCons (wBin fAt (wLst (wCons (wC (.int 2)) (wCons (wBin fMul (wVar 1) (wVar 1)) (wCons (wC (.int 1000)) wNil)))) (wCall sp__law_draw [] (wCons (wVar 0) (wCons (wC (.int 3)) wNil)))) wNil)))) (gN 6)) w_rg3))
theorem pow_log {b m : Nat} (hb : b ≤ 10) (h2 : 2 ≤ b) (hm : m ≤ 1000) : (b ^ m).log2 < 4001 := log2_pow_le hb h2 hm
theorem mul_wide {i j : Int} (h1 : i.natAbs.log2 < 400000) (h2 : j.natAbs.log2 < 400000) : MulOk i j := .inr (by show _ + _ < _; omega)
theorem log_le {m n : Nat} (h : m ≤ n) : m.log2 ≤ n.log2 := by
  by_cases h0 : m = 0
  · subst h0; simp
  · exact (Nat.le_log2 (by omega)).mpr (Nat.le_trans (Nat.log2_self_le h0) h)
theorem first_loop {b many : Nat} (h2 : 2 ≤ b) (hb : b ≤ 10) : ∀ (l : List D) (i f a : Nat) (o4 o5 o6 o7 : Option D) (ah : AH) (dn : DEnds) (x : QXS), SI a ah → a + 2 * l.length < 2 ^ 45 → f < b ^ i →
    (∀ (f' a' : Nat) (o4 : Option D) (ah' : AH), f' < b ^ (i + l.length) → a' ≤ a + 2 * l.length → SI a' ah' → Fm ah ah' → dn.nx [some (.ref 3), some (.int b), some (.int many), some (.int f'), o4, o5, o6, o7] ah') →
    forGo (fun _ => True) (gN 4) w_rg1 dn x l [some (.ref 3), some (.int b), some (.int many), some (.int f), o4, o5, o6, o7] ah
  | [], i, f, a, o4, o5, o6, o7, ah, dn, x, hs, ha, hf, h => ⟨trivial, h f a o4 ah (by simpa using hf) (by simp) hs Fm.refl⟩
  | d :: l, i, f, a, o4, o5, o6, o7, ah, dn, x, hs, ha, hf, h => by
    simp only [List.length_cons] at ha h
    refine ⟨trivial, ?_⟩
    unfold w_rg1
    simp only [wSeq, wAsg, wLst, wCons, wNil, wCall, wBin, wVar, wC, gt, st, gN, newL, wExpr, wMet, wTst, wIf, wRet, wNext, wTup, wCal, wNot, wAnd, wOr, wAndV, wOrV, wNotV, wIfE, wPar, wPar3, gT, gsC, gsN, wFld, fFld, wCMeth, wSl, wPart, wNoPart, wFor, wIter, fIter, wLc, nos, no, wRng1, wRng2, wChain, wNeg, wStar, wPut, wSetF, wAug, wYes, wEnum, atE, fMul, fSub]
    refine ⟨mul_small ⟨by omega, by omega⟩, b, a, rfl, by omega, by omega, hs, by omega, fun r1 ah1 hr1 s1 f1 => ?_⟩
    refine ⟨show 3 ≤ 16777216 by decide, 3, a + 1, rfl, by decide, by decide, s1.ext (Ext.push _), by omega, fun r2 ah2 hr2 s2 f2 => ?_⟩
    have g := fm_lst s1.len f2
    have fm2 : Fm ah ah2 := f1.trans ((Ext.push _).fm.trans f2)
    obtain ⟨y, ey, hy⟩ : ∃ y : Nat, [D.int (r1 : Nat), .int 0, .int ((b : Int) - 1)][r2]? = some (.int (y : Nat)) ∧ y < b := by
      have c : r2 = 0 ∨ r2 = 1 ∨ r2 = 2 := by omega
      rcases c with rfl | rfl | rfl
      · exact ⟨r1, rfl, hr1⟩
      · exact ⟨0, rfl, by omega⟩
      · exact ⟨b - 1, by show some (D.int ((b : Int) - 1)) = _; rw [show ((b : Int) - 1) = ((b - 1 : Nat) : Int) by omega], by omega⟩
    refine pick g ey ?_
    simp only [fAdd]
    have e : (f : Int) * (b : Int) + (y : Int) = ((f * b + y : Nat) : Int) := by rw [Int.natCast_add, Int.natCast_mul]
    rw [e]
    have hf' : f * b + y < b ^ (i + 1) := by
      rw [Nat.pow_succ]
      have : (f + 1) * b ≤ b ^ i * b := Nat.mul_le_mul_right _ hf
      rw [Nat.add_mul] at this
      omega
    exact first_loop h2 hb l (i + 1) (f * b + y) (a + 2) _ _ _ _ ah2 dn x s2 (by omega) hf' fun f' a' o4 ah' q1 q2 q3 q4 => h f' a' o4 ah' (by rw [show i + (l.length + 1) = i + 1 + l.length by omega]; exact q1) (by omega) q3 (fm2.trans q4)
theorem rg3 {b f k m a many : Nat} {e2 e4 : Option D} {o7 : Option D} {ah : AH} {dn : DEnds} {x : QXS} (h2 : 2 ≤ b) (hb : b ≤ 10) (hs : SI a ah) (ha : a < 2 ^ 45) (f1 : 1 ≤ f) (ff : f < b ^ many) (hk : k ≤ many + 1) (hmany : many ≤ 200) (m1 : 1 ≤ m) (mm : m ≤ 1000)
    (h : ∀ (s : Nat) (ah' : AH), f < s → s < b ^ (many + 12) → SI (a + 1) ah' → Fm ah ah' → dn.rt (.tup [.int f, .int s]) ah') :
    w_rg3 [some (.ref 3), some (.int b), e2, some (.int f), e4, some (.int ((b ^ k : Nat) : Int)), some (.int (m : Nat)), o7] ah dn x := by
  unfold w_rg3
  simp only [wSeq, wAsg, wLst, wCons, wNil, wCall, wBin, wVar, wC, gt, st, gN, newL, wExpr, wMet, wTst, wIf, wRet, wNext, wTup, wCal, wNot, wAnd, wOr, wAndV, wOrV, wNotV, wIfE, wPar, wPar3, gT, gsC, gsN, wFld, fFld, wCMeth, wSl, wPart, wNoPart, wFor, wIter, fIter, wLc, nos, no, wRng1, wRng2, wChain, wNeg, wStar, wPut, wSetF, wAug, wYes, wEnum, atE]
  refine ⟨4, a, rfl, by decide, by decide, hs, by omega, fun w ah1 hw s1 fm => ?_⟩
  have pk : 1 ≤ b ^ k := Nat.pow_pos (by omega)
  have pk2 : b ^ k ≤ b ^ (many + 1) := Nat.pow_le_pow_right (by omega) hk
  have pm : b ^ many ≤ b ^ (many + 1) := Nat.pow_le_pow_right (by omega) (by omega)
  have big : b ^ (many + 1) * 2048 ≤ b ^ (many + 12) := by
    rw [show b ^ (many + 12) = b ^ (many + 1) * b ^ 11 from by rw [← Nat.pow_add]]
    refine Nat.mul_le_mul_left _ ?_
    have : (2 : Nat) ^ 11 ≤ b ^ 11 := Nat.pow_le_pow_left h2 11
    exact Nat.le_trans (by decide) this
  have pm1 : 1 ≤ b ^ (many + 1) := Nat.pow_pos (by omega)
  have lg := pow_log (m := k) hb h2 (by omega)
  have lgf : f.log2 < 4001 := Nat.lt_of_le_of_lt (log_le (Nat.le_of_lt ff)) (pow_log hb h2 (by omega))
  have two : ∀ s : Int, [D.int (f : Nat), D.int s].length ≤ sizeLine := fun s => show 2 ≤ 16777216 by decide
  simp only [fEq, fAdd, fMul, fDiv, fSub]
  have hw4 : w = 0 ∨ w = 1 ∨ w = 2 ∨ w = 3 := by omega
  rcases hw4 with rfl | rfl | rfl | rfl
  · rw [decide_eq_true (by omega)]
    refine ite_t ⟨two _, ?_⟩
    rw [← Int.natCast_add]
    exact h (f + m) ah1 (by omega) (by omega) s1 fm
  · rw [decide_eq_false (by omega)]
    refine ite_f ?_
    rw [decide_eq_true (by omega)]
    refine ite_t ⟨two _, ?_⟩
    rw [← Int.natCast_add]
    exact h (f + b ^ k) ah1 (by omega) (by omega) s1 fm
  · rw [decide_eq_false (by omega)]
    refine ite_f ?_
    rw [decide_eq_false (by omega)]
    refine ite_f ?_
    rw [decide_eq_true (by omega)]
    have d1 := Nat.div_add_mod' f (b ^ k)
    have d2 : f / b ^ k * b ^ k ≤ f := Nat.div_mul_le_self _ _
    have d3 := Nat.mod_lt f (show b ^ k > 0 by omega)
    have d4 : (f / b ^ k + 1) * b ^ k = f / b ^ k * b ^ k + b ^ k := by rw [Nat.add_mul, Nat.one_mul]
    have e0 : (f : Int) / ((b ^ k : Nat) : Int) + 1 = ((f / b ^ k + 1 : Nat) : Int) := by rw [Int.natCast_add, Int.natCast_ediv]; rfl
    refine ite_t ⟨⟨by omega, by rw [Int.natAbs_natCast]; omega⟩, ?_, ?_⟩
    · rw [e0]
      refine mul_wide ?_ (by rw [Int.natAbs_natCast]; omega)
      rw [Int.natAbs_natCast]
      have : f / b ^ k + 1 ≤ f + 1 := Nat.succ_le_succ (Nat.div_le_self _ _)
      have l2 := log_le (Nat.le_trans this (show f + 1 ≤ b ^ many by omega))
      have := pow_log (m := many) hb h2 (by omega)
      omega
    · refine ⟨two _, ?_⟩
      have e : (((f : Int) / ((b ^ k : Nat) : Int) + 1) * ((b ^ k : Nat) : Int) + (m : Int) - 1) = (((f / b ^ k + 1) * b ^ k + m - 1 : Nat) : Int) := by
        rw [e0, ← Int.natCast_mul]; omega
      rw [e]
      exact h _ ah1 (by omega) (by omega) s1 fm
  · rw [decide_eq_false (by omega)]
    refine ite_f ?_
    rw [decide_eq_false (by omega)]
    refine ite_f ?_
    rw [decide_eq_false (by omega)]
    refine ite_f ⟨mul_small ⟨by omega, by omega⟩, two _, ?_⟩
    have e : (f : Int) + ((b ^ k : Nat) : Int) * (m : Int) = ((f + b ^ k * m : Nat) : Int) := by rw [Int.natCast_add, Int.natCast_mul]
    rw [e]
    have u1 : 1 ≤ b ^ k * m := Nat.mul_pos pk m1
    have u2 : b ^ k * m ≤ b ^ (many + 1) * 1000 := Nat.mul_le_mul pk2 mm
    exact h _ ah1 (by omega) (by omega) s1 fm
theorem wp__law_range (ds : List D) (ah : AH) (q : QE) (x : QX) (h : sp__law_range ds ah q x) : w__law_range (startD 8 ds) ah { nx := fun _ ah' => q .non ah', rt := q } (fun e _ ah' => x e ah') := by
  obtain ⟨b, many, a, rfl, h2, hb, m1, m60, hs, ha, hq⟩ := h
  show w__law_range [some (.ref 3), some (.int b), some (.int many), none, none, none, none, none] ah _ _
  refine ⟨many, a, rfl, by omega, by omega, hs, by omega, fun r1 ah1 hr1 s1 f1 => ⟨by show _ ≤ (1 : Int) + r1; omega, by show (1 : Int) + r1 < _; omega, ?_⟩⟩
  have hlen : (rangeD 0 ((1 : Int) + (r1 : Nat)).toNat).length = 1 + r1 := by rw [rangeD_len]; omega
  refine first_loop (many := many) h2 hb (rangeD 0 ((1 : Int) + (r1 : Nat)).toNat) 0 0 (a + 1) none none none none ah1 _ _ s1 (by rw [hlen]; omega) (by simp) fun f' a' o4 ah2 q1 q2 s2 f2 => ?_
  rw [hlen] at q1 q2
  rw [Nat.zero_add] at q1
  suffices key : w_rg2 [some (.ref 3), some (.int b), some (.int many), some (.int f'), o4, none, none, none] ah2 { nx := fun _ ah' => q .non ah', rt := q } (fun e _ ah' => x e ah') from key
  unfold w_rg2
  simp only [wSeq, wAsg, wLst, wCons, wNil, wCall, wBin, wVar, wC, gt, st, gN, newL, wExpr, wMet, wTst, wIf, wRet, wNext, wTup, wCal, wNot, wAnd, wOr, wAndV, wOrV, wNotV, wIfE, wPar, wPar3, gT, gsC, gsN, wFld, fFld, wCMeth, wSl, wPart, wNoPart, wFor, wIter, fIter, wLc, nos, no, wRng1, wRng2, wChain, wNeg, wStar, wPut, wSetF, wAug, wYes, wEnum, atE, gMax2, fAdd]
  refine ⟨many + 2, a', rfl, by omega, by omega, s2, by omega, fun k ah3 hk s3 f3 => ?_⟩
  refine ⟨b, k, rfl, by omega, by omega, ?_⟩
  have ef : (if (f' : Int) > 1 then (f' : Int) else 1) = ((max 1 f' : Nat) : Int) := by split <;> omega
  simp only [fMul]
  refine ⟨mul_small ⟨by omega, by omega⟩, show 3 ≤ 16777216 by decide, 3, a' + 1, rfl, by decide, by decide, s3.ext (Ext.push _), by omega, fun r4 ah4 hr4 s4 f4 => ?_⟩
  have g := fm_lst s3.len f4
  obtain ⟨y, ey, y1, hy⟩ : ∃ y : Nat, [D.int 2, .int ((b : Int) * b), .int 1000][r4]? = some (.int (y : Nat)) ∧ 1 ≤ y ∧ y ≤ 1000 := by
    have c : r4 = 0 ∨ r4 = 1 ∨ r4 = 2 := by omega
    rcases c with rfl | rfl | rfl
    · exact ⟨2, rfl, by omega, by omega⟩
    · refine ⟨b * b, by show some (D.int ((b : Int) * b)) = _; rw [Int.natCast_mul], Nat.mul_pos (by omega) (by omega), ?_⟩
      have : b * b ≤ 10 * 10 := Nat.mul_le_mul hb hb
      omega
    · exact ⟨1000, rfl, by omega, by omega⟩
  refine pick g ey ?_
  refine ⟨y, a' + 1 + 1, rfl, by omega, by omega, s4, by omega, fun r5 ah5 hr5 s5 f5 => ?_⟩
  dsimp only
  rw [ef, show (1 : Int) + (r5 : Nat) = ((1 + r5 : Nat) : Int) by omega]
  have pw : b ^ (1 + r1) ≤ b ^ many := Nat.pow_le_pow_right (by omega) (by omega)
  have p1 : 1 < b ^ many := Nat.one_lt_pow (by omega) (by omega)
  refine rg3 h2 hb s5 (by omega) (by omega) (by omega) (by omega) m60 (by omega) (by omega) fun s ah6 hs1 hs2 s6 f6 => ?_
  exact hq _ _ _ _ (by omega) hs1 (by omega) hs2 (by omega) s6 (f1.trans (f2.trans (f3.trans ((Ext.push _).fm.trans (f4.trans (f5.trans f6))))))
end Z
namespace Z
open PySem PySem.Spec PyProof.Rows L2
/-! ### _law_raised -/
def w__law_raised : WE → WS := fun wA => (wSeq (wPar 1 2 (wCons (wC .non) (wCons (wLst wNil) wNil))) (wSeq (wTry rCs 3 1 (wExpr (wA))) (wSeq (wIf (wTst (wBin (fIs false) (wVar 1) (wC .non))) (wRet (wTup wNil)) wNext) (wSeq (wIf (wTst (wCal (gIsx rCs rDs) (wCons (wVar 1) (wCons (wC (.glo "BadBase")) wNil)))) (wExpr (wMet isLst fAppend (wVar 2) (wCons (wTup (wCons (wC (.str "base")) (wCons (wXf rVs "value" (wVar 1)) wNil))) wNil))) wNext) (wSeq (wIf (wTst (wCal (gIsx rCs rDs) (wCons (wVar 1) (wCons (wC (.glo "BadNumber")) wNil)))) (wExpr (wMet isLst fAppend (wVar 2) (wCons (wTup (wCons (wC (.str "number")) (wCons (wXf rVs "value" (wVar 1)) wNil))) wNil))) wNext) (wSeq (wIf (wTst (wCal (gIsx rCs rDs) (wCons (wVar 1) (wCons (wC (.glo "BadDigits")) wNil)))) (wExpr (wMet isLst fAppend (wVar 2) (wCons (wTup (wCons (wC (.str "digits")) (wCons (wXf rVs "value" (wVar 1)) wNil))) wNil))) wNext) (wSeq (wIf (wTst (wCal (gIsx rCs rDs) (wCons (wVar 1) (wCons (wC (.glo "BadRange")) wNil)))) (wExpr (wMet isLst fAppend (wVar 2) (wCons (wTup (wCons (wC (.str "range")) (wCons (wXf rVs "value" (wVar 1)) wNil))) wNil))) wNext) (wSeq (wIf (wTst (wCal (gIsx rCs rDs) (wCons (wVar 1) (wCons (wC (.glo "BadRule")) wNil)))) (wExpr (wMet isLst fAppend (wVar 2) (wCons (wTup (wCons (wC (.str "rule")) (wCons (wXf ["BadRule", "BadEntry"] "place" (wVar 1)) wNil))) wNil))) wNext) (wSeq (wIf (wTst (wCal (gIsx rCs rDs) (wCons (wVar 1) (wCons (wC (.glo "BadReader")) wNil)))) (wExpr (wMet isLst fAppend (wVar 2) (wCons (wTup (wCons (wC (.str "reader")) (wCons (wXf rVs "value" (wVar 1)) wNil))) wNil))) wNext) (wSeq (wIf (wTst (wCal (gIsx rCs rDs) (wCons (wVar 1) (wCons (wC (.glo "BadManner")) wNil)))) (wExpr (wMet isLst fAppend (wVar 2) (wCons (wTup (wCons (wC (.str "manner")) (wCons (wXf rVs "value" (wVar 1)) wNil))) wNil))) wNext) (wSeq (wIf (wTst (wCal (gIsx rCs rDs) (wCons (wVar 1) (wCons (wC (.glo "BadEntry")) wNil)))) (wExpr (wMet isLst fAppend (wVar 2) (wCons (wTup (wCons (wC (.str "entry")) (wCons (wXf ["BadRule", "BadEntry"] "place" (wVar 1)) wNil))) wNil))) wNext) (wSeq (wIf (wTst (wCal (gIsx rCs rDs) (wCons (wVar 1) (wCons (wC (.glo "BadName")) wNil)))) (wExpr (wMet isLst fAppend (wVar 2) (wCons (wTup (wCons (wC (.str "name")) (wCons (wXf rVs "value" (wVar 1)) wNil))) wNil))) wNext) (wSeq (wIf (wTst (wCal (gIsx rCs rDs) (wCons (wVar 1) (wCons (wC (.glo "BadText")) wNil)))) (wExpr (wMet isLst fAppend (wVar 2) (wCons (wTup (wCons (wC (.str "text")) (wCons (wXf ["BadText"] "line" (wVar 1)) (wCons (wXf ["BadText"] "word" (wVar 1)) wNil)))) wNil))) wNext) (wSeq (wIf (wTst (wCal (gIsx rCs rDs) (wCons (wVar 1) (wCons (wC (.glo "OtherBase")) wNil)))) (wExpr (wMet isLst fAppend (wVar 2) (wCons (wTup (wCons (wC (.str "other")) wNil)) wNil))) wNext) (wSeq (wIf (wTst (wCal (gIsx rCs rDs) (wCons (wVar 1) (wCons (wC (.glo "TooMany")) wNil)))) (wExpr (wMet isLst fAppend (wVar 2) (wCons (wTup (wCons (wC (.str "many")) (wCons (wXf [] "most" (wVar 1)) wNil))) wNil))) wNext) (wSeq (wIf (wTst (wCal (gIsx rCs rDs) (wCons (wVar 1) (wCons (wC (.glo "Missing")) wNil)))) (wExpr (wMet isLst fAppend (wVar 2) (wCons (wTup (wCons (wC (.str "missing")) (wCons (wXf [] "name" (wVar 1)) wNil))) wNil))) wNext) (wSeq (wIf (wTst (wCal (gIsx rCs rDs) (wCons (wVar 1) (wCons (wC (.glo "NothingLeft")) wNil)))) (wExpr (wMet isLst fAppend (wVar 2) (wCons (wTup (wCons (wC (.str "nothing")) wNil)) wNil))) wNext) (wRet (wIfE (wTst (wBin (fEq false) (wCal gLen (wCons (wVar 2) wNil)) (wC (.int 1)))) (wBin fAt (wVar 2) (wC (.int 0))) (wTup (wCons (wC (.str "odd")) (wCons (wCal gLen (wCons (wVar 2) wNil)) wNil))))))))))))))))))))))
/-- the word of an exception: class, attribute, word -/
def rTab : List (Str × Str × Str) := [("BadBase", "value", "base"), ("BadNumber", "value", "number"), ("BadDigits", "value", "digits"), ("BadRange", "value", "range"), ("BadRule", "place", "rule"), ("BadReader", "value", "reader"), ("BadManner", "value", "manner"), ("BadEntry", "place", "entry"), ("BadName", "value", "name")]
def Told (e : XD) (t : D) : Prop := (∃ p ∈ rTab, ∃ v, e = (p.1, [(p.2.1, v)]) ∧ t = .tup [.str p.2.2, v]) ∨ ∃ l w, e = (("BadText" : Str), [(("word" : Str), w), (("line" : Str), l)]) ∧ t = .tup [.str "text", l, w]
def rCl (D : Str) (wt : WE) : WS := wIf (wTst (wCal (gIsx rCs rDs) (wCons (wVar 1) (wCons (wC (.glo D)) wNil)))) (wExpr (wMet isLst fAppend (wVar 2) (wCons wt wNil))) wNext
def rCh : List (Str × WE) → WS → WS
  | [], v => v
  | p :: l, v => wSeq (rCl p.1 p.2) (rCh l v)
def free_ (C : Str) (l : List Str) : Bool := l.all fun D => decide (D ∈ rDs) && !(decide (C = D))
section
variable {f : D} {n m : Nat} {ah : AH} {C D : Str} {fs : List (Str × Z.D)} {u v : WS} {dn : DEnds} {x : QXS}
theorem rCl_no {wt : WE} (hn : ah[n]? = some (.exc C fs)) (hC : C ∈ rCs) (hD : D ∈ rDs) (hne : C ≠ D) (h : dn.nx [some f, some (.ref n), some (.ref m), none] ah) : rCl D wt [some f, some (.ref n), some (.ref m), none] ah dn x := by
  simp only [wSeq, wAsg, wLst, wCons, wNil, wCall, wBin, wVar, wC, gt, st, gN, newL, wExpr, wMet, wTst, wIf, wRet, wNext, wTup, wCal, wNot, wAnd, wOr, wAndV, wOrV, wNotV, wIfE, wPar, wPar3, gT, gsC, gsN, wFld, fFld, wCMeth, wSl, wPart, wNoPart, wFor, wIter, fIter, wLc, nos, no, wRng1, wRng2, wChain, wNeg, wStar, wPut, wSetF, wAug, wYes, wEnum, atE, rCl, gIsx, hn]
  exact ⟨hC, hD, by simp [hne]; exact h⟩
theorem rCl_yes {wt : WE} {t : Z.D} (hn : ah[n]? = some (.exc C fs)) (hm : ah[m]? = some (.lst [])) (hC : C ∈ rCs) (hD : C ∈ rDs) (hw : ∀ q x, q t ah → wt [some f, some (.ref n), some (.ref m), none] ah q x) (h : dn.nx [some f, some (.ref n), some (.ref m), none] (ah.set m (.lst [t]))) : rCl C wt [some f, some (.ref n), some (.ref m), none] ah dn x := by
  simp only [wSeq, wAsg, wLst, wCons, wNil, wCall, wBin, wVar, wC, gt, st, gN, newL, wExpr, wMet, wTst, wIf, wRet, wNext, wTup, wCal, wNot, wAnd, wOr, wAndV, wOrV, wNotV, wIfE, wPar, wPar3, gT, gsC, gsN, wFld, fFld, wCMeth, wSl, wPart, wNoPart, wFor, wIter, fIter, wLc, nos, no, wRng1, wRng2, wChain, wNeg, wStar, wPut, wSetF, wAug, wYes, wEnum, atE, rCl, gIsx, hn, isLst, hm]
  refine ⟨hC, hD, ?_⟩
  simp only [decide_true, if_true]
  refine ⟨trivial, hw _ _ ?_⟩
  simp only [fAppend, hm, List.nil_append]
  exact ⟨by decide, h⟩
theorem rCh_no (hn : ah[n]? = some (.exc C fs)) (hC : C ∈ rCs) : ∀ {l : List (Str × WE)}, free_ C (l.map (·.1)) = true → v [some f, some (.ref n), some (.ref m), none] ah dn x → rCh l v [some f, some (.ref n), some (.ref m), none] ah dn x
  | [], _, h => h
  | p :: l, hl, h => by
    unfold free_ at hl
    rw [List.map_cons, List.all_cons, Bool.and_eq_true, Bool.and_eq_true] at hl
    exact rCl_no hn hC (of_decide_eq_true hl.1.1) (by simpa using hl.1.2) (rCh_no hn hC hl.2 h)
theorem rCh_app : ∀ {l k : List (Str × WE)}, rCh (l ++ k) v = rCh l (rCh k v)
  | [], _ => rfl
  | p :: l, k => by show wSeq _ (rCh (l ++ k) v) = wSeq _ _; rw [rCh_app]
theorem rCh_yes {l k : List (Str × WE)} {wt : WE} {t : Z.D} (hne : n ≠ m) (hn : ah[n]? = some (.exc C fs)) (hm : ah[m]? = some (.lst [])) (hC : C ∈ rCs) (hD : C ∈ rDs) (hl : free_ C (l.map (·.1)) = true) (hk : free_ C (k.map (·.1)) = true)
    (hw : ∀ q x, q t ah → wt [some f, some (.ref n), some (.ref m), none] ah q x) (h : v [some f, some (.ref n), some (.ref m), none] (ah.set m (.lst [t])) dn x) : rCh (l ++ (C, wt) :: k) v [some f, some (.ref n), some (.ref m), none] ah dn x := by
  rw [rCh_app]
  refine rCh_no hn hC hl ?_
  exact rCl_yes hn hm hC hD hw (rCh_no (by rw [List.getElem?_set_ne (Ne.symm hne)]; exact hn) hC hk h)
theorem wt_one {Fs : List Str} {g wd : Str} {val : Z.D} (hn : ah[n]? = some (.exc C [(g, val)])) (hF : C ∈ Fs) (q : QE) (x : QX) (h : q (.tup [.str wd, val]) ah) : wTup (wCons (wC (.str wd)) (wCons (wXf Fs g (wVar 1)) wNil)) [some f, some (.ref n), some (.ref m), none] ah q x := by
  simp only [wSeq, wAsg, wLst, wCons, wNil, wCall, wBin, wVar, wC, gt, st, gN, newL, wExpr, wMet, wTst, wIf, wRet, wNext, wTup, wCal, wNot, wAnd, wOr, wAndV, wOrV, wNotV, wIfE, wPar, wPar3, gT, gsC, gsN, wFld, fFld, wCMeth, wSl, wPart, wNoPart, wFor, wIter, fIter, wLc, nos, no, wRng1, wRng2, wChain, wNeg, wStar, wPut, wSetF, wAug, wYes, wEnum, atE, wXf, hn]
  exact ⟨hF, by simp; exact ⟨by decide, h⟩⟩
end
def rL : List (Str × WE) := [("BadBase", wTup (wCons (wC (.str "base")) (wCons (wXf rVs "value" (wVar 1)) wNil))),
  ("BadNumber", wTup (wCons (wC (.str "number")) (wCons (wXf rVs "value" (wVar 1)) wNil))),
  ("BadDigits", wTup (wCons (wC (.str "digits")) (wCons (wXf rVs "value" (wVar 1)) wNil))),
  ("BadRange", wTup (wCons (wC (.str "range")) (wCons (wXf rVs "value" (wVar 1)) wNil))),
  ("BadRule", wTup (wCons (wC (.str "rule")) (wCons (wXf ["BadRule", "BadEntry"] "place" (wVar 1)) wNil))),
  ("BadReader", wTup (wCons (wC (.str "reader")) (wCons (wXf rVs "value" (wVar 1)) wNil))),
  ("BadManner", wTup (wCons (wC (.str "manner")) (wCons (wXf rVs "value" (wVar 1)) wNil))),
  ("BadEntry", wTup (wCons (wC (.str "entry")) (wCons (wXf ["BadRule", "BadEntry"] "place" (wVar 1)) wNil))),
  ("BadName", wTup (wCons (wC (.str "name")) (wCons (wXf rVs "value" (wVar 1)) wNil))),
  ("BadText", wTup (wCons (wC (.str "text")) (wCons (wXf ["BadText"] "line" (wVar 1)) (wCons (wXf ["BadText"] "word" (wVar 1)) wNil)))),
  ("OtherBase", wTup (wCons (wC (.str "other")) wNil)),
  ("TooMany", wTup (wCons (wC (.str "many")) (wCons (wXf [] "most" (wVar 1)) wNil))),
  ("Missing", wTup (wCons (wC (.str "missing")) (wCons (wXf [] "name" (wVar 1)) wNil))),
  ("NothingLeft", wTup (wCons (wC (.str "nothing")) wNil))]
def w_rf : WS := wRet (wIfE (wTst (wBin (fEq false) (wCal gLen (wCons (wVar 2) wNil)) (wC (.int 1)))) (wBin fAt (wVar 2) (wC (.int 0))) (wTup (wCons (wC (.str "odd")) (wCons (wCal gLen (wCons (wVar 2) wNil)) wNil))))
def w_rr : WS := rCh rL w_rf
theorem raised_eq (wA : WE) : w__law_raised wA = (wSeq (wPar 1 2 (wCons (wC .non) (wCons (wLst wNil) wNil))) (wSeq (wTry rCs 3 1 (wExpr wA)) (wSeq (wIf (wTst (wBin (fIs false) (wVar 1) (wC .non))) (wRet (wTup wNil)) wNext) w_rr))) := rfl
section
variable {f t : D} {n m : Nat} {ah : AH} {C : Str} {fs : List (Str × Z.D)} {dn : DEnds} {x : QXS}
theorem rf_ok (hm : ah[m]? = some (.lst [t])) (h : dn.rt t ah) : w_rf [some f, some (.ref n), some (.ref m), none] ah dn x := by
  simp only [wSeq, wAsg, wLst, wCons, wNil, wCall, wBin, wVar, wC, gt, st, gN, newL, wExpr, wMet, wTst, wIf, wRet, wNext, wTup, wCal, wNot, wAnd, wOr, wAndV, wOrV, wNotV, wIfE, wPar, wPar3, gT, gsC, gsN, wFld, fFld, wCMeth, wSl, wPart, wNoPart, wFor, wIter, fIter, wLc, nos, no, wRng1, wRng2, wChain, wNeg, wStar, wPut, wSetF, wAug, wYes, wEnum, atE, w_rf, gLen, hm, fEq, fAt]
  simp [fIx, hm, atI]
  exact h
theorem rr_case {l k : List (Str × WE)} {wt : WE} (e : rL = l ++ (C, wt) :: k) (hne : n ≠ m) (hn : ah[n]? = some (.exc C fs)) (hm : ah[m]? = some (.lst [])) (hC : C ∈ rCs) (hD : C ∈ rDs) (hl : free_ C (l.map (·.1)) = true) (hk : free_ C (k.map (·.1)) = true)
    (hw : ∀ q x, q t ah → wt [some f, some (.ref n), some (.ref m), none] ah q x) (h : dn.rt t (ah.set m (.lst [t]))) : w_rr [some f, some (.ref n), some (.ref m), none] ah dn x := by
  unfold w_rr
  rw [e]
  exact rCh_yes hne hn hm hC hD hl hk hw (rf_ok (by rw [List.getElem?_set_self (List.getElem?_eq_some_iff.mp hm).1]) h)
theorem wt_text {l w : Z.D} (hn : ah[n]? = some (.exc "BadText" [("word", w), ("line", l)])) (q : QE) (x : QX) (h : q (.tup [.str "text", l, w]) ah) : wTup (wCons (wC (.str "text")) (wCons (wXf ["BadText"] "line" (wVar 1)) (wCons (wXf ["BadText"] "word" (wVar 1)) wNil))) [some f, some (.ref n), some (.ref m), none] ah q x := by
  have e1 : List.lookup ("line" : Str) [(("word" : Str), w), (("line" : Str), l)] = some l := rfl
  have e2 : List.lookup ("word" : Str) [(("word" : Str), w), (("line" : Str), l)] = some w := rfl
  simp only [wSeq, wAsg, wLst, wCons, wNil, wCall, wBin, wVar, wC, gt, st, gN, newL, wExpr, wMet, wTst, wIf, wRet, wNext, wTup, wCal, wNot, wAnd, wOr, wAndV, wOrV, wNotV, wIfE, wPar, wPar3, gT, gsC, gsN, wFld, fFld, wCMeth, wSl, wPart, wNoPart, wFor, wIter, fIter, wLc, nos, no, wRng1, wRng2, wChain, wNeg, wStar, wPut, wSetF, wAug, wYes, wEnum, atE, wXf, hn, e1, e2]
  exact ⟨by simp, by simp, by show 3 ≤ sizeLine; decide, h⟩
/-- the clauses: the word of the exception -/
theorem rr_ok {e : XD} (hne : n ≠ m) (hn : ah[n]? = some (.exc e.1 e.2)) (hm : ah[m]? = some (.lst [])) (ht : Told e t) (h : dn.rt t (ah.set m (.lst [t]))) : w_rr [some f, some (.ref n), some (.ref m), none] ah dn x := by
  rcases ht with ⟨p, hp, v, rfl, rfl⟩ | ⟨l, w, rfl, rfl⟩
  · unfold rTab at hp
    simp only [List.mem_cons, List.not_mem_nil, or_false] at hp
    rcases hp with rfl | rfl | rfl | rfl | rfl | rfl | rfl | rfl | rfl <;> dsimp only at hn h
    · exact rr_case (l := rL.take 0) (k := rL.drop 1) rfl hne hn hm (by decide +kernel) (by decide +kernel) (by decide +kernel) (by decide +kernel) (fun q x => wt_one (Fs := rVs) hn (by decide +kernel) q x) h
    · exact rr_case (l := rL.take 1) (k := rL.drop 2) rfl hne hn hm (by decide +kernel) (by decide +kernel) (by decide +kernel) (by decide +kernel) (fun q x => wt_one (Fs := rVs) hn (by decide +kernel) q x) h
    · exact rr_case (l := rL.take 2) (k := rL.drop 3) rfl hne hn hm (by decide +kernel) (by decide +kernel) (by decide +kernel) (by decide +kernel) (fun q x => wt_one (Fs := rVs) hn (by decide +kernel) q x) h
    · exact rr_case (l := rL.take 3) (k := rL.drop 4) rfl hne hn hm (by decide +kernel) (by decide +kernel) (by decide +kernel) (by decide +kernel) (fun q x => wt_one (Fs := rVs) hn (by decide +kernel) q x) h
    · exact rr_case (l := rL.take 4) (k := rL.drop 5) rfl hne hn hm (by decide +kernel) (by decide +kernel) (by decide +kernel) (by decide +kernel) (fun q x => wt_one (Fs := ["BadRule", "BadEntry"]) hn (by decide +kernel) q x) h
    · exact rr_case (l := rL.take 5) (k := rL.drop 6) rfl hne hn hm (by decide +kernel) (by decide +kernel) (by decide +kernel) (by decide +kernel) (fun q x => wt_one (Fs := rVs) hn (by decide +kernel) q x) h
    · exact rr_case (l := rL.take 6) (k := rL.drop 7) rfl hne hn hm (by decide +kernel) (by decide +kernel) (by decide +kernel) (by decide +kernel) (fun q x => wt_one (Fs := rVs) hn (by decide +kernel) q x) h
    · exact rr_case (l := rL.take 7) (k := rL.drop 8) rfl hne hn hm (by decide +kernel) (by decide +kernel) (by decide +kernel) (by decide +kernel) (fun q x => wt_one (Fs := ["BadRule", "BadEntry"]) hn (by decide +kernel) q x) h
    · exact rr_case (l := rL.take 8) (k := rL.drop 9) rfl hne hn hm (by decide +kernel) (by decide +kernel) (by decide +kernel) (by decide +kernel) (fun q x => wt_one (Fs := rVs) hn (by decide +kernel) q x) h
  · dsimp only at hn h
    exact rr_case (l := rL.take 9) (k := rL.drop 10) rfl hne hn hm (by decide +kernel) (by decide +kernel) (by decide +kernel) (by decide +kernel) (fun q x => wt_text hn q x) h
end
theorem told_mem {e : XD} {t : D} (h : Told e t) : e.1 ∈ rCs := by
  rcases h with ⟨p, hp, v, rfl, rfl⟩ | ⟨l, w, rfl, rfl⟩
  · have q : (rTab.all fun p => decide (p.1 ∈ rCs)) = true := by decide +kernel
    exact of_decide_eq_true (List.all_eq_true.mp q p hp)
  · show ("BadText" : Str) ∈ rCs
    decide +kernel
theorem raised_gen {v : WS} {d : D} {wA wb : WE} {env : En} {ah : AH} {q : QE} {nx : En → AH → Prop} (hA : wA = wAct 0 d env wb)
    (h : ∀ (q' : QE) (x' : QX), (∀ d ah1, q (.tup []) ah1 → q' d ah1) → (∀ e ah1, e.1 ∈ rCs → v [some d, some (.ref ah1.length), some (.ref ah.length), none] (ah1 ++ [.exc e.1 e.2]) { nx := nx, rt := q } (fun _ _ _ => False) → x' e ah1) → wb env (ah ++ [.lst []]) q' x') :
    (wSeq (wPar 1 2 (wCons (wC .non) (wCons (wLst wNil) wNil))) (wSeq (wTry rCs 3 1 (wExpr wA)) (wSeq (wIf (wTst (wBin (fIs false) (wVar 1) (wC .non))) (wRet (wTup wNil)) wNext) v))) [some d, none, none, none] ah { nx := nx, rt := q } (fun _ _ _ => False) := by
  subst hA
  simp only [wSeq, wAsg, wLst, wCons, wNil, wCall, wBin, wVar, wC, gt, st, gN, newL, wExpr, wMet, wTst, wIf, wRet, wNext, wTup, wCal, wNot, wAnd, wOr, wAndV, wOrV, wNotV, wIfE, wPar, wPar3, gT, gsC, gsN, wFld, fFld, wCMeth, wSl, wPart, wNoPart, wFor, wIter, fIter, wLc, nos, no, wRng1, wRng2, wChain, wNeg, wStar, wPut, wSetF, wAug, wYes, wEnum, atE, wTry, wAct, fIs]
  refine ⟨by decide, ⟨trivial, h _ _ (fun d ah1 hq => ?_) (fun e ah1 hC hv => ?_)⟩⟩
  · simp only [Bool.not_false, if_true]
    exact ⟨by decide, hq⟩
  · refine ⟨hC, ?_⟩
    simp only [wSeq, wAsg, wLst, wCons, wNil, wCall, wBin, wVar, wC, gt, st, gN, newL, wExpr, wMet, wTst, wIf, wRet, wNext, wTup, wCal, wNot, wAnd, wOr, wAndV, wOrV, wNotV, wIfE, wPar, wPar3, gT, gsC, gsN, wFld, fFld, wCMeth, wSl, wPart, wNoPart, wFor, wIter, fIter, wLc, nos, no, wRng1, wRng2, wChain, wNeg, wStar, wPut, wSetF, wAug, wYes, wEnum, atE, Bool.false_eq_true, if_false]
    exact hv
theorem wp_raised {wb : WE} {env : En} {ah : AH} {q : QE} {x : QX} (h : ∀ (q' : QE) (x' : QX), (∀ d ah1, q (.tup []) ah1 → q' d ah1) → (∀ e ah1 t, ah1[ah.length]? = some (.lst []) → Told e t → q t ((ah1 ++ [.exc e.1 e.2]).set ah.length (.lst [t])) → x' e ah1) → wb env (ah ++ [.lst []]) q' x') :
    wRaised 4 w__law_raised wb env ah q x := by
  intro f c qn us
  rw [raised_eq, show startD 4 [.fn f c qn (capD env) us] = [some (.fn f c qn (capD env) us), none, none, none] from rfl]
  refine raised_gen rfl fun q' x' h1 h2 => h q' x' h1 fun e ah1 t hm ht hq => h2 e ah1 (told_mem ht) ?_
  have hl : ah.length < ah1.length := (List.getElem?_eq_some_iff.mp hm).1
  exact rr_ok (e := e) (t := t) (Nat.ne_of_gt hl) (by simp) (by rw [List.getElem?_append_left hl]; exact hm) ht hq
end Z
namespace Z
open PySem PySem.Spec PyProof.Rows L2
/-! ### changed, near: what is refused, what is told -/
/-- base first, then the range -/
def sp_changed : DSp := fun ds ah q x => ∃ b d e, ds = [b, d, e] ∧ (tyD ah b).isSome = true ∧ (tyD ah d).isSome = true ∧ (tyD ah e).isSome = true ∧
  (if among b 2 10 = true then (if rangeB d e = true then ∃ n f s : Nat, b = .int n ∧ d = .int f ∧ e = .int s ∧ Rg n f s ∧ ∀ ah', Ext ah ah' → q (.int (chg n f s : Nat)) ah' else x ("BadRange", [("value", .tup [d, e])]) ah) else x ("BadBase", [("value", b)]) ah)
def w_changed : WS := (wSeq (wExpr (wCall sp_need_base [] (wCons (wVar 0) wNil))) (wSeq (wExpr (wCall sp_need_range [] (wCons (wVar 1) (wCons (wVar 2) wNil)))) (wRet (wCall sp_changed_in [] (wCons (wVar 0) (wCons (wVar 1) (wCons (wVar 2) wNil)))))))
theorem wp_changed (ds : List D) (ah : AH) (q : QE) (x : QX) (h : sp_changed ds ah q x) : w_changed (startD 3 ds) ah { nx := fun _ ah' => q .non ah', rt := q } (fun e _ ah' => x e ah') := by
  obtain ⟨b, d, e, rfl, hb, hd, he, h⟩ := h
  show w_changed [some b, some d, some e] ah _ _
  unfold w_changed
  simp only [wSeq, wAsg, wLst, wCons, wNil, wCall, wBin, wVar, wC, gt, st, gN, newL, wExpr, wMet, wTst, wIf, wRet, wNext, wTup, wCal, wNot, wAnd, wOr, wAndV, wOrV, wNotV, wIfE, wPar, wPar3, gT, gsC, gsN, wFld, fFld, wCMeth, wSl, wPart, wNoPart, wFor, wIter, fIter, wLc, nos, no, wRng1, wRng2, wChain, wNeg, wStar, wPut, wSetF, wAug, wYes, wEnum, atE]
  refine ⟨b, rfl, hb, ?_⟩
  split at h
  · rename_i h1
    rw [if_pos h1]
    refine ⟨d, e, rfl, hd, he, ?_⟩
    split at h
    · rename_i h2
      rw [if_pos h2]
      obtain ⟨n, f, s, rfl, rfl, rfl, r, hq⟩ := h
      exact ⟨n, f, s, rfl, r, hq⟩
    · rename_i h2
      rw [if_neg h2]
      exact h
  · rename_i h1
    rw [if_neg h1]
    exact h
def sp_near : DSp := fun ds ah q x => ∃ b d e, ds = [b, d, e] ∧ (tyD ah b).isSome = true ∧ (tyD ah d).isSome = true ∧ (tyD ah e).isSome = true ∧
  (if among b 2 10 = true then (if rangeB d e = true then ∃ n f s : Nat, b = .int n ∧ d = .int f ∧ e = .int s ∧ 2 ≤ n ∧ n ≤ 10 ∧ f < s ∧ q (.int (nr n (s - f) : Nat)) ah else x ("BadRange", [("value", .tup [d, e])]) ah) else x ("BadBase", [("value", b)]) ah)
def w_near : WS := (wSeq (wExpr (wCall sp_need_base [] (wCons (wVar 0) wNil))) (wSeq (wExpr (wCall sp_need_range [] (wCons (wVar 1) (wCons (wVar 2) wNil)))) (wRet (wCall sp_near_in [] (wCons (wVar 0) (wCons (wVar 1) (wCons (wVar 2) wNil)))))))
theorem wp_near (ds : List D) (ah : AH) (q : QE) (x : QX) (h : sp_near ds ah q x) : w_near (startD 3 ds) ah { nx := fun _ ah' => q .non ah', rt := q } (fun e _ ah' => x e ah') := by
  obtain ⟨b, d, e, rfl, hb, hd, he, h⟩ := h
  show w_near [some b, some d, some e] ah _ _
  unfold w_near
  simp only [wSeq, wAsg, wLst, wCons, wNil, wCall, wBin, wVar, wC, gt, st, gN, newL, wExpr, wMet, wTst, wIf, wRet, wNext, wTup, wCal, wNot, wAnd, wOr, wAndV, wOrV, wNotV, wIfE, wPar, wPar3, gT, gsC, gsN, wFld, fFld, wCMeth, wSl, wPart, wNoPart, wFor, wIter, fIter, wLc, nos, no, wRng1, wRng2, wChain, wNeg, wStar, wPut, wSetF, wAug, wYes, wEnum, atE]
  refine ⟨b, rfl, hb, ?_⟩
  split at h
  · rename_i h1
    rw [if_pos h1]
    refine ⟨d, e, rfl, hd, he, ?_⟩
    split at h
    · rename_i h2
      rw [if_pos h2]
      obtain ⟨n, f, s, rfl, rfl, rfl, r1, r2, r3, hq⟩ := h
      exact ⟨n, f, s, rfl, r1, r2, r3, hq⟩
    · rename_i h2
      rw [if_neg h2]
      exact h
  · rename_i h1
    rw [if_neg h1]
    exact h
/-- one of a list, or one sign of a text, drawn -/
def sp__law_of : DSp := fun ds ah q _ => (∃ (n a : Nat) (l : List D), ds = [.ref 3, .ref n] ∧ 4 ≤ n ∧ ah[n]? = some (.lst l) ∧ 0 < l.length ∧ l.length < 1000 ∧ SI a ah ∧ a < 2 ^ 50 ∧ ∀ (d : D) (ah' : AH), d ∈ l → SI (a + 1) ah' → Fm ah ah' → q d ah') ∨
  ∃ (z : Str) (a : Nat), ds = [.ref 3, .str z] ∧ 0 < z.length ∧ z.length < 1000 ∧ SI a ah ∧ a < 2 ^ 50 ∧ ∀ (c : Nat) (ah' : AH), c ∈ z.cps.toList → SI (a + 1) ah' → Fm ah ah' → q (.str ⟨#[c]⟩) ah'
def w__law_of : WS := (wRet (wBin fAt (wVar 1) (wCall sp__law_draw [] (wCons (wVar 0) (wCons (wCal gLen (wCons (wVar 1) wNil)) wNil)))))
theorem wp__law_of (ds : List D) (ah : AH) (q : QE) (x : QX) (h : sp__law_of ds ah q x) : w__law_of (startD 2 ds) ah { nx := fun _ ah' => q .non ah', rt := q } (fun e _ ah' => x e ah') := by
  rcases h with ⟨n, a, l, rfl, hne, hl, h0, h1, hs, ha, hq⟩ | ⟨z, a, rfl, h0, h1, hs, ha, hq⟩
  · show w__law_of [some (.ref 3), some (.ref n)] ah _ _
    unfold w__law_of
    simp only [wSeq, wAsg, wLst, wCons, wNil, wCall, wBin, wVar, wC, gt, st, gN, newL, wExpr, wMet, wTst, wIf, wRet, wNext, wTup, wCal, wNot, wAnd, wOr, wAndV, wOrV, wNotV, wIfE, wPar, wPar3, gT, gsC, gsN, wFld, fFld, wCMeth, wSl, wPart, wNoPart, wFor, wIter, fIter, wLc, nos, no, wRng1, wRng2, wChain, wNeg, wStar, wPut, wSetF, wAug, wYes, wEnum, atE, gLen, hl]
    refine ⟨l.length, a, rfl, h0, by omega, hs, ha, fun r ah' hr s1 f1 => ?_⟩
    have hg := f1 n _ hne hl
    have ht : atI l (r : Int) = some l[r] := by
      rw [atI_nat, List.getElem?_eq_getElem hr]
    simp only [fAt, fIx, hg, ht]
    exact hq _ _ (List.getElem_mem hr) s1 f1
  · show w__law_of [some (.ref 3), some (.str z)] ah _ _
    unfold w__law_of
    simp only [wSeq, wAsg, wLst, wCons, wNil, wCall, wBin, wVar, wC, gt, st, gN, newL, wExpr, wMet, wTst, wIf, wRet, wNext, wTup, wCal, wNot, wAnd, wOr, wAndV, wOrV, wNotV, wIfE, wPar, wPar3, gT, gsC, gsN, wFld, fFld, wCMeth, wSl, wPart, wNoPart, wFor, wIter, fIter, wLc, nos, no, wRng1, wRng2, wChain, wNeg, wStar, wPut, wSetF, wAug, wYes, wEnum, atE, gLen]
    have hz : z.length ≤ sizeLine := Nat.le_of_lt (Nat.lt_trans h1 (by decide))
    refine ⟨hz, z.length, a, rfl, h0, by omega, hs, ha, fun r ah' hr s1 f1 => ?_⟩
    have hr' : r < z.cps.toList.length := by simpa [Str.length] using hr
    have ht : atI z.cps.toList (r : Int) = some z.cps.toList[r] := by
      rw [atI_nat, List.getElem?_eq_getElem hr']
    simp only [fAt, fIx, ht]
    exact ⟨hz, hq _ _ (List.getElem_mem hr') s1 f1⟩
end Z
namespace Z
open PySem PySem.Spec PyProof.Rows L2
/-! ### steps: one for each form, by its head -/
section
variable {env : En} {ah : AH} {q : QE} {x : QX} {X : QXS} {dn : DEnds} {u v : WS} {w a b c : WE} {t t' : WT} {ws : WA} {g : WG} {gs : WGs} {wi : WI} {K : En → AH → Prop}
theorem y_seq (h : u env ah { dn with nx := fun env1 ah1 => v env1 ah1 dn X } X) : wSeq u v env ah dn X := h
theorem y_asg (h : w env ah (fun d ah1 => g d env ah1 dn.nx) (atE X env)) : wAsg w g env ah dn X := h
theorem y_expr (h : w env ah (fun _ ah1 => dn.nx env ah1) (atE X env)) : wExpr w env ah dn X := h
theorem y_ret (h : w env ah dn.rt (atE X env)) : wRet w env ah dn X := h
theorem y_retN (h : dn.rt .non ah) : wRetN env ah dn X := h
theorem y_next (h : dn.nx env ah) : wNext env ah dn X := h
theorem y_if (h : t env ah (fun b ah1 => if b = true then u env ah1 dn X else v env ah1 dn X) (atE X env)) : wIf t u v env ah dn X := h
theorem y_par {i j : Nat} (h : ws env ah (fun ds ah1 => match ds with | [d, d'] => dn.nx (Z.st (Z.st env i d) j d') ah1 | _ => False) (atE X env)) : wPar i j ws env ah dn X := h
theorem y_par3 {i j l : Nat} (h : ws env ah (fun ds ah1 => match ds with | [d, d', d2] => dn.nx (Z.st (Z.st (Z.st env i d) j d') l d2) ah1 | _ => False) (atE X env)) : wPar3 i j l ws env ah dn X := h
theorem y_aug {i : Nat} {f : F2} {d : D} (e : gt env i = some d) (h : w env ah (fun d2 ah1 => f d d2 ah1 fun d3 ah2 => dn.nx (Z.st env i d3) ah2) (atE X env)) : wAug i f w env ah dn X := by unfold wAug; rw [e]; exact h
theorem y_put (h : a env ah (fun d ah1 => b env ah1 (fun d1 ah2 => c env ah2 (fun d2 ah3 => fPut d1 d2 d ah3 fun ah4 => dn.nx env ah4) (atE X env)) (atE X env)) (atE X env)) : wPut a b c env ah dn X := h
theorem y_setF {Cs : List Str} {m : Str} (h : a env ah (fun d ah1 => b env ah1 (fun d1 ah2 => fSetF Cs m d1 d ah2 fun ah3 => dn.nx env ah3) (atE X env)) (atE X env)) : wSetF Cs m a b env ah dn X := h
theorem y_raise {C : Str} {fs : List Str} (h : ws env ah (fun ds ah1 => ds.length = fs.length ∧ fs.length ≤ 1000 ∧ X (C, (fs.zip ds).reverse) env ah1) (atE X env)) : wRaise C fs ws env ah dn X := h
theorem y_for (h : wi env ah (fun it ah1 => forGo it.ok g u dn X it.items env ah1) (atE X env)) : wFor wi g u env ah dn X := h
theorem y_var {i : Nat} {d : D} (e : gt env i = some d) (h : q d ah) : wVar i env ah q x := by unfold wVar; rw [e]; exact h
theorem y_c {d : D} (h : q d ah) : wC d env ah q x := h
theorem y_bin {f : F2} (h : a env ah (fun d1 ah1 => b env ah1 (fun d2 ah2 => f d1 d2 ah2 q) x) x) : wBin f a b env ah q x := h
theorem y_sl {lo hi : WO} (h : w env ah (fun d ah1 => lo env ah1 (fun l ah2 => hi env ah2 (fun h ah3 => fSl d l h ah3 q) x) x) x) : wSl w lo hi env ah q x := h
theorem y_noP {qo : Option Int → AH → Prop} (h : qo none ah) : wNoPart env ah qo x := h
theorem y_part {qo : Option Int → AH → Prop} (h : w env ah (fun d ah1 => match d with | .int i => qo (some i) ah1 | _ => False) x) : wPart w env ah qo x := h
theorem y_tup (h : ws env ah (fun ds ah1 => ds.length ≤ sizeLine ∧ q (.tup ds) ah1) x) : wTup ws env ah q x := h
theorem y_lst (h : ws env ah (fun ds ah1 => ds.length ≤ sizeLine ∧ newL ds ah1 q) x) : wLst ws env ah q x := h
theorem y_andV (h : a env ah (fun d ah1 => match d with | .bl true => b env ah1 q x | .bl false => q (.bl false) ah1 | _ => False) x) : wAndV a b env ah q x := h
theorem y_orV (h : a env ah (fun d ah1 => match d with | .bl false => b env ah1 q x | .bl true => q (.bl true) ah1 | _ => False) x) : wOrV a b env ah q x := h
theorem y_notV (h : a env ah (fun d ah1 => match d with | .bl b => q (.bl (!b)) ah1 | _ => False) x) : wNotV a env ah q x := h
theorem y_ifE (h : t env ah (fun c ah1 => if c = true then a env ah1 q x else b env ah1 q x) x) : wIfE t a b env ah q x := h
theorem y_neg (h : a env ah (fun d ah1 => match d with | .int i => q (.int (-i)) ah1 | _ => False) x) : wNeg a env ah q x := h
theorem y_chain {f f' : F2} (h : a env ah (fun d1 ah1 => b env ah1 (fun d2 ah2 => f d1 d2 ah2 fun d ah3 => match d with | .bl true => c env ah3 (fun d3 ah4 => f' d2 d3 ah4 q) x | .bl false => q (.bl false) ah3 | _ => False) x) x) : wChain f f' a b c env ah q x := h
theorem y_cal {f : FA} (h : ws env ah (fun ds ah1 => f ds ah1 q) x) : wCal f ws env ah q x := h
theorem y_met {ok : D → AH → Prop} {f : FM} (h : a env ah (fun d ah1 => ok d ah1 ∧ ws env ah1 (fun ds ah2 => f d ds ah2 q) x) x) : wMet ok f a ws env ah q x := h
theorem y_call {sp : DSp} {dd : List D} (h : ws env ah (fun ds ah1 => sp (ds ++ dd) ah1 q x) x) : wCall sp dd ws env ah q x := h
theorem y_meth {C m : Str} {sp : DSp} (h : a env ah (fun d ah1 => insOf C m d ah1 (ws env ah1 (fun ds ah2 => sp (d :: ds) ah2 q x) x)) x) : wMeth C m sp a ws env ah q x := h
theorem y_cmeth {C : Str} {sp : DSp} (h : ws env ah (fun ds ah1 => sp (.glo C :: ds) ah1 q x) x) : wCMeth C sp ws env ah q x := h
theorem y_fld {Cs : List Str} {m : Str} (h : w env ah (fun d ah1 => fFld Cs m d ah1 q) x) : wFld Cs m w env ah q x := h
theorem y_lc {vs : List Nat} (h : wi env ah (fun it ah1 => lcGo it.ok g t w (nos env vs) q it.items [] ah1) x) : wLc vs wi g t w env ah q x := h
theorem y_tst {qt : Bool → AH → Prop} (h : w env ah (fun d ah1 => match d with | .bl b => qt b ah1 | _ => False) x) : wTst w env ah qt x := h
theorem y_not {qt : Bool → AH → Prop} (h : t env ah (fun b ah1 => qt (!b) ah1) x) : wNot t env ah qt x := h
theorem y_and {qt : Bool → AH → Prop} (h : t env ah (fun b ah1 => if b = true then t' env ah1 qt x else qt false ah1) x) : wAnd t t' env ah qt x := h
theorem y_or {qt : Bool → AH → Prop} (h : t env ah (fun b ah1 => if b = true then qt true ah1 else t' env ah1 qt x) x) : wOr t t' env ah qt x := h
theorem y_yes {qt : Bool → AH → Prop} (h : qt true ah) : wYes env ah qt x := h
theorem y_nil {qa : List D → AH → Prop} (h : qa [] ah) : wNil env ah qa x := h
theorem y_cons {qa : List D → AH → Prop} (h : w env ah (fun d ah1 => ws env ah1 (fun ds ah2 => qa (d :: ds) ah2) x) x) : wCons w ws env ah qa x := h
theorem y_iter {qi : DIt → AH → Prop} (h : w env ah (fun d ah1 => fIter d ah1 qi) x) : wIter w env ah qi x := h
theorem y_itT {l : List D} {qi : DIt → AH → Prop} (h : qi ⟨l, fun _ => True⟩ ah) : fIter (.tup l) ah qi := h
theorem y_itS {z : Str} {qi : DIt → AH → Prop} (h : qi ⟨signs z, fun _ => True⟩ ah) : fIter (.str z) ah qi := h
theorem y_itL {n : Nat} {l : List D} {qi : DIt → AH → Prop} (e : ah[n]? = some (.lst l)) (h : qi ⟨l, fun ah' => ah'[n]? = some (.lst l)⟩ ah) : fIter (.ref n) ah qi := by simp only [fIter, e]; exact h
theorem y_gN {i : Nat} {d : D} (h : K (Z.st env i d) ah) : gN i d env ah K := h
theorem y_gsN (h : K env ah) : gsN [] env ah K := h
theorem y_gsC {d : D} {l : List D} (h : g d env ah fun env1 ah1 => gs l env1 ah1 K) : gsC g gs (d :: l) env ah K := h
theorem y_gT {n : Nat} {l : List D} (e : l.length = n) (h : gs l env ah K) : gT n gs (.tup l) env ah K := ⟨e, h⟩
theorem y_newL {xs : List D} (h : q (.ref ah.length) (ah ++ [.lst xs])) : newL xs ah q := h
theorem y_addI {i j : Int} (h : q (.int (i + j)) ah) : fAdd (.int i) (.int j) ah q := h
theorem y_subI {i j : Int} (h : q (.int (i - j)) ah) : fSub (.int i) (.int j) ah q := h
theorem y_leI {i j : Int} (h : q (.bl (decide (i ≤ j))) ah) : fLe (.int i) (.int j) ah q := h
theorem y_geI {i j : Int} (h : q (.bl (decide (j ≤ i))) ah) : fGe (.int i) (.int j) ah q := h
theorem y_ltI {i j : Int} (h : q (.bl (decide (i < j))) ah) : fLt (.int i) (.int j) ah q := h
theorem y_gtI {i j : Int} (h : q (.bl (decide (j < i))) ah) : fGt (.int i) (.int j) ah q := h
theorem y_eqI {n : Bool} {i j : Int} (h : q (.bl (n != decide (i = j))) ah) : fEq n (.int i) (.int j) ah q := h
theorem y_eqS {n : Bool} {i j : Str} (h : q (.bl (n != decide (i = j))) ah) : fEq n (.str i) (.str j) ah q := h
theorem y_lenT {l : List D} (h : q (.int l.length) ah) : gLen [.tup l] ah q := h
theorem y_lenF {l : List D} (h : q (.int l.length) ah) : gLen [.frl l] ah q := h
theorem y_lenL {n : Nat} {l : List D} (e : ah[n]? = some (.lst l)) (h : q (.int l.length) ah) : gLen [.ref n] ah q := by unfold gLen; simp only [e]; exact h
theorem y_int {i : Int} (h : q (.int i) ah) : gInt [.int i] ah q := h
theorem y_atT {l : List D} {i : Int} {d : D} (e : atI l i = some d) (h : q d ah) : fAt (.tup l) (.int i) ah q := by
  show (match atI l i with | some d => q d ah | none => False : Prop)
  rw [e]; exact h
theorem y_atL {n : Nat} {l : List D} {i : Int} {d : D} (hn : ah[n]? = some (.lst l)) (e : atI l i = some d) (h : q d ah) : fAt (.ref n) (.int i) ah q := by
  simp only [fAt, fIx, hn, e]; exact h
theorem y_isN {n : Bool} (h : q (.bl (!n)) ah) : fIs n .non .non ah q := h
theorem y_isI {n : Bool} {i : Int} (h : q (.bl n) ah) : fIs n (.int i) .non ah q := h
theorem y_isS {n : Bool} {i : Str} (h : q (.bl n) ah) : fIs n (.str i) .non ah q := h
theorem y_isT {n : Bool} {i : List D} (h : q (.bl n) ah) : fIs n (.tup i) .non ah q := h
theorem y_isR {n : Bool} {i : Nat} (h : q (.bl n) ah) : fIs n (.ref i) .non ah q := h
theorem y_ifT {c : Bool} {p r : Prop} (e : c = true) (h : p) : if c = true then p else r := by rw [if_pos e]; exact h
theorem y_ifF {c : Bool} {p r : Prop} (e : c = false) (h : r) : if c = true then p else r := by rw [if_neg (by rw [e]; decide)]; exact h
theorem y_catL {n m : Nat} {xs ys : List D} (h1 : ah[n]? = some (.lst xs)) (h2 : ah[m]? = some (.lst ys)) (hl : xs.length + ys.length ≤ sizeLine) (h : newL (xs ++ ys) ah q) : fAdd (.ref n) (.ref m) ah q := by
  simp only [fAdd, h1, h2]
  exact ⟨hl, h⟩
theorem y_catT {xs ys : List D} (hl : xs.length + ys.length ≤ sizeLine) (h : q (.tup (xs ++ ys)) ah) : fAdd (.tup xs) (.tup ys) ah q := ⟨hl, h⟩
theorem y_catS {xs ys : Str} (hl : xs.length + ys.length ≤ sizeLine) (h : q (.str (xs ++ ys)) ah) : fAdd (.str xs) (.str ys) ah q := ⟨hl, h⟩
theorem y_slL {n : Nat} {l : List D} {lo hi : Option Int} (hn : ah[n]? = some (.lst l)) (h : newL (cutD l lo hi) ah q) : fSl (.ref n) lo hi ah q := by
  simp only [fSl, hn]; exact h
theorem y_slT {l : List D} {lo hi : Option Int} (h : q (.tup (cutD l lo hi)) ah) : fSl (.tup l) lo hi ah q := h
theorem y_tupL {n : Nat} {l : List D} (hn : ah[n]? = some (.lst l)) (h : q (.tup l) ah) : gTuple [.ref n] ah q := by simp only [gTuple, hn]; exact h
theorem y_fldI {n : Nat} {Cs : List Str} {C m : Str} {fs : List (Str × D)} {d : D} (hn : ah[n]? = some (.ins C fs)) (hC : C ∈ Cs) (e : fs.lookup m = some d) (h : q d ah) : fFld Cs m (.ref n) ah q := by
  simp only [fFld, hn, e]; exact ⟨hC, h⟩
theorem y_insI {n : Nat} {C m : Str} {fs : List (Str × D)} {k : Prop} (hn : ah[n]? = some (.ins C fs)) (e : fs.lookup m = none) (h : k) : insOf C m (.ref n) ah k := by
  simp only [insOf, hn]; exact ⟨trivial, e, h⟩
theorem y_appL {n : Nat} {l : List D} {d : D} (hn : ah[n]? = some (.lst l)) (hl : l.length < sizeLine) (h : q .non (ah.set n (.lst (l ++ [d])))) : fAppend (.ref n) [d] ah q := by
  simp only [fAppend, hn]; exact ⟨hl, h⟩
theorem y_min {i j : Int} (h : q (.int (if j < i then j else i)) ah) : gMin2 [.int i, .int j] ah q := h
theorem y_max {i j : Int} (h : q (.int (if j > i then j else i)) ah) : gMax2 [.int i, .int j] ah q := h
theorem y_isL {n : Nat} {l : List D} (hn : ah[n]? = some (.lst l)) : isLst (.ref n) ah := by unfold isLst; simp only [hn]
theorem y_rng1 {qi : DIt → AH → Prop} (h : ws env ah (fun ds ah1 => match ds with | [.int j] => -(2 ^ 62) ≤ j ∧ j < 2 ^ 62 ∧ qi ⟨rangeD 0 j.toNat, fun _ => True⟩ ah1 | _ => False) x) : wRng1 ws env ah qi x := h
theorem y_rng2 {qi : DIt → AH → Prop} (h : ws env ah (fun ds ah1 => match ds with | [.int i, .int j] => (-(2 ^ 62) ≤ i ∧ i < 2 ^ 62 ∧ -(2 ^ 62) ≤ j ∧ j < 2 ^ 62) ∧ qi ⟨rangeD i (j - i).toNat, fun _ => True⟩ ah1 | _ => False) x) : wRng2 ws env ah qi x := h
theorem y_enum {qi : DIt → AH → Prop} (h : ws env ah (fun ds ah1 => match ds with | [.tup l] => qi ⟨numbered 0 l, fun _ => True⟩ ah1 | _ => False) x) : wEnum ws env ah qi x := h
theorem y_dict {w : WD} (h : w env ah (fun ps ah1 => match keysD ps with | some kvs => kvs.length ≤ 15 ∧ q (.ref ah1.length) (ah1 ++ [.dct (kvs.foldl (fun acc kv => putD acc kv.1 kv.2) [])]) | none => False) x) : wDict w env ah q x := h
theorem y_dict0 (h : q (.ref ah.length) (ah ++ [.dct []])) : wDict wdNil env ah q x := ⟨by decide, h⟩
theorem y_dnil {qd : List (D × D) → AH → Prop} (h : qd [] ah) : wdNil env ah qd x := h
theorem get_is {o o' : O} (e : o' = o) : (ah ++ [o'])[ah.length]? = some o := by rw [get_push, e]
theorem get_past {l : AH} {m : Nat} {o : O} (h : ah[m]? = some o) : (ah ++ l)[m]? = some o := Ext.push l m o h
theorem ext_past {ah' l : AH} (h : Ext ah ah') : Ext ah (ah' ++ l) := h.trans (Ext.push l)
end
end Z
namespace Z
open PySem PySem.Spec PyProof.Rows L2
/-! ### loops by an invariant -/
theorem forGo_rule {ok : AH → Prop} {g : WG} {body : WS} {dn : DEnds} {x : QXS} (J : List D → En → AH → Prop) (hok : ∀ l env ah, J l env ah → ok ah) (hnil : ∀ env ah, J [] env ah → dn.nx env ah)
    (hstep : ∀ d l env ah (K : En → AH → Prop), J (d :: l) env ah → (∀ env ah, J l env ah → K env ah) → g d env ah fun env1 ah1 => body env1 ah1 { dn with nx := K, ct := K, bk := dn.nx } x) :
    ∀ l env ah, J l env ah → forGo ok g body dn x l env ah
  | [], env, ah, h => ⟨hok _ _ _ h, hnil _ _ h⟩
  | d :: l, env, ah, h => ⟨hok _ _ _ h, hstep d l env ah _ h (forGo_rule J hok hnil hstep l)⟩
theorem lcGo_rule {ok : AH → Prop} {g : WG} {t : WT} {el : WE} {env : En} {q : QE} (J : List D → List D → AH → Prop) (hok : ∀ l acc ah, J l acc ah → ok ah) (hnil : ∀ acc ah, J [] acc ah → newL acc ah q)
    (hstep : ∀ d l acc ah (K : List D → AH → Prop), J (d :: l) acc ah → (∀ acc ah, J l acc ah → K acc ah) → acc.length < sizeLine ∧ g d env ah fun env1 ah1 => t env1 ah1 (fun b ah2 =>
      if b = true then el env1 ah2 (fun y ah3 => K (acc ++ [y]) ah3) (fun _ _ => False) else K acc ah2) (fun _ _ => False)) :
    ∀ l acc ah, J l acc ah → lcGo ok g t el env q l acc ah
  | [], acc, ah, h => ⟨hok _ _ _ h, hnil _ _ h⟩
  | d :: l, acc, ah, h => by
    obtain ⟨h1, h2⟩ := hstep d l acc ah _ h (lcGo_rule J hok hnil hstep l)
    exact ⟨hok _ _ _ h, h1, h2⟩
/-! ### words of exceptions -/
theorem tell1 {C f w : Str} (v : D) (h : (C, f, w) ∈ rTab) : Told (C, [(f, v)]) (.tup [.str w, v]) := .inl ⟨(C, f, w), h, v, rfl, rfl⟩
theorem tell_base (v : D) : Told ("BadBase", [("value", v)]) (.tup [.str "base", v]) := tell1 v (by decide +kernel)
theorem tell_number (v : D) : Told ("BadNumber", [("value", v)]) (.tup [.str "number", v]) := tell1 v (by decide +kernel)
theorem tell_digits (v : D) : Told ("BadDigits", [("value", v)]) (.tup [.str "digits", v]) := tell1 v (by decide +kernel)
theorem tell_range (v : D) : Told ("BadRange", [("value", v)]) (.tup [.str "range", v]) := tell1 v (by decide +kernel)
theorem tell_rule (v : D) : Told ("BadRule", [("place", v)]) (.tup [.str "rule", v]) := tell1 v (by decide +kernel)
theorem tell_reader (v : D) : Told ("BadReader", [("value", v)]) (.tup [.str "reader", v]) := tell1 v (by decide +kernel)
theorem tell_manner (v : D) : Told ("BadManner", [("value", v)]) (.tup [.str "manner", v]) := tell1 v (by decide +kernel)
theorem tell_entry (v : D) : Told ("BadEntry", [("place", v)]) (.tup [.str "entry", v]) := tell1 v (by decide +kernel)
theorem tell_name (v : D) : Told ("BadName", [("value", v)]) (.tup [.str "name", v]) := tell1 v (by decide +kernel)
theorem ext_at {ah k : AH} {o : O} : Ext ah ((ah ++ k).set ah.length o) := fun m u e => by
  have hm : m < ah.length := (List.getElem?_eq_some_iff.mp e).1
  rw [List.getElem?_set_ne (by omega), List.getElem?_append_left hm]
  exact e
/-- a call in a lambda, all that was there stays: what is raised is told, or () -/
theorem raise_any {wb : WE} {env : En} {ah : AH} {q : QE} {x : QX} (h : ∀ (q' : QE) (x' : QX), (∀ d ah1, Ext ah ah1 → q (.tup []) ah1 → q' d ah1) → (∀ e ah1 t, Ext (ah ++ [.lst []]) ah1 → Told e t → (∀ ah2, Ext ah ah2 → (∀ m o, m ≠ ah.length → ah1[m]? = some o → ah2[m]? = some o) → q t ah2) → x' e ah1) → wb env (ah ++ [.lst []]) q' x') :
    wRaised 4 w__law_raised wb env ah q x := by
  refine wp_raised fun q' x' h1 h2 => h q' x' (fun d ah1 _ hq => h1 d ah1 hq) fun e ah1 t he ht hq => ?_
  have hl : ah1[ah.length]? = some (.lst []) := he _ _ (get_push _ _)
  refine h2 e ah1 t hl ht (hq _ (fun m u em => ?_) fun m o hm em => ?_)
  · have hm : m < ah.length := (List.getElem?_eq_some_iff.mp em).1
    have e1 := he m u (by rw [List.getElem?_append_left hm]; exact em)
    have hm1 : m < ah1.length := (List.getElem?_eq_some_iff.mp e1).1
    rw [List.getElem?_set_ne (by omega), List.getElem?_append_left hm1]
    exact e1
  · have hm1 : m < ah1.length := (List.getElem?_eq_some_iff.mp em).1
    rw [List.getElem?_set_ne (Ne.symm hm), List.getElem?_append_left hm1]
    exact em
/-! ### things that can be shown -/
mutual
/-- a thing without parts that change -/
def stiff : D → Bool
  | .non => true
  | .bl _ => true
  | .int _ => true
  | .str _ => true
  | .tup l => stiffs l
  | _ => false
def stiffs : List D → Bool
  | [] => true
  | d :: l => stiff d && stiffs l
end
mutual
/-- how it is shown -/
def toP : D → PyData
  | .non => .none
  | .bl b => .bool b
  | .int i => .int i
  | .str s => .str s
  | .tup l => .tuple (toPs l)
  | _ => .none
def toPs : List D → List PyData
  | [] => []
  | d :: l => toP d :: toPs l
end
mutual
def dep : D → Nat
  | .tup l => deps l + 1
  | _ => 0
def deps : List D → Nat
  | [] => 0
  | d :: l => max (dep d) (deps l)
end
mutual
theorem pd_stiff (ah : AH) : ∀ (d : D) (n : Nat), stiff d = true → dep d ≤ n → pd n ah d = some (toP d)
  | .non, n, _, _ => by cases n <;> rfl
  | .bl _, n, _, _ => by cases n <;> rfl
  | .int _, n, _, _ => by cases n <;> rfl
  | .str _, n, _, _ => by cases n <;> rfl
  | .tup l, 0, _, h => by unfold dep at h; omega
  | .tup l, n + 1, h, k => by
    unfold stiff at h
    unfold dep at k
    unfold pd toP
    rw [pds_stiff ah l n h (by omega)]
    rfl
  | .ty _, _, h, _ => by unfold stiff at h; cases h
  | .glo _, _, h, _ => by unfold stiff at h; cases h
  | .ref _, _, h, _ => by unfold stiff at h; cases h
  | .frl _, _, h, _ => by unfold stiff at h; cases h
  | .fn _ _ _ _ _, _, h, _ => by unfold stiff at h; cases h
theorem pds_stiff (ah : AH) : ∀ (l : List D) (n : Nat), stiffs l = true → deps l ≤ n → pds (pd n ah) l = some (toPs l)
  | [], _, _, _ => rfl
  | d :: l, n, h, k => by
    unfold stiffs at h
    rw [Bool.and_eq_true] at h
    unfold deps at k
    unfold pds toPs
    rw [pd_stiff ah d n h.1 (by omega), pds_stiff ah l n h.2 (by omega)]
end
/-- shown wherever it stands -/
structure Sh (d : D) : Prop where
  st : stiff d = true
  dp : dep d ≤ 15
  fi : fineP (toP d) = true
  le : wt (toP d) ≤ 200000
theorem sh_of {d : D} (h : (stiff d && (decide (dep d ≤ 15) && (fineP (toP d) && decide (wt (toP d) ≤ 200000)))) = true) : Sh d := by
  simp only [Bool.and_eq_true, decide_eq_true_eq] at h
  exact ⟨h.1, h.2.1, h.2.2.1, h.2.2.2⟩
structure Shs (l : List D) : Prop where
  st : stiffs l = true
  dp : deps l ≤ 15
  fi : finePs (toPs l) = true
  le : wts (toPs l) ≤ 1000000
theorem shs_nil : Shs [] := ⟨rfl, by decide, rfl, by decide⟩
theorem repr_sh {d : D} {ah : AH} {q : QE} (h : Sh d) (hq : q (.str (toP d).shown) ah) : gRepr [d] ah q :=
  gRepr_fine (pd_stiff ah d 20 h.st (Nat.le_trans h.dp (by decide))) h.fi (Nat.le_trans h.le (by decide)) hq
theorem repr_shs {l : List D} {n : Nat} {ah : AH} {q : QE} (h : Shs l) (hn : ah[n]? = some (.lst l)) (hq : q (.str (PyData.list (toPs l)).shown) ah) : gRepr [.ref n] ah q := by
  refine gRepr_fine (p := .list (toPs l)) ?_ h.fi ?_ hq
  · show (match ah[n]? with | some (.lst xs) => (pds (pd 19 ah) xs).map PyData.list | _ => none) = _
    rw [hn]
    show (pds (pd 19 ah) l).map PyData.list = _
    rw [pds_stiff ah l 19 h.st (Nat.le_trans h.dp (by decide))]
    rfl
  · show wts (toPs l) + 3 ≤ _
    have := h.le
    omega
theorem Sh.pair {w : Str} {d : D} (h : Sh d) (hw : fineP (.str w) = true) (hl : w.length ≤ 100) (hd : dep d ≤ 14) (hle : wt (toP d) ≤ 190000) : Sh (.tup [.str w, d]) := by
  refine ⟨?_, ?_, ?_, ?_⟩
  · simp [stiff, stiffs, h.st]
  · show max 0 (max (dep d) 0) + 1 ≤ 15
    omega
  · show (fineP (.str w) && (fineP (toP d) && true)) = true
    rw [hw, h.fi]; rfl
  · show (10 * w.length + 2) + 2 + (wt (toP d) + 2 + 0) + 3 ≤ 200000
    omega
theorem Shs.cons {d : D} {l : List D} (h : Sh d) (k : Shs l) (hl : wts (toPs l) ≤ 700000) : Shs (d :: l) := by
  refine ⟨?_, ?_, ?_, ?_⟩
  · simp [stiffs, h.st, k.st]
  · show max (dep d) (deps l) ≤ 15
    have := h.dp
    have := k.dp
    omega
  · show (fineP (toP d) && finePs (toPs l)) = true
    rw [h.fi, k.fi]; rfl
  · show wt (toP d) + 2 + wts (toPs l) ≤ 1000000
    have := h.le
    omega
theorem fEq_refl {neg : Bool} {a : Str} {ah : AH} {q : QE} (h : q (.bl (!neg)) ah) : fEq neg (.str a) (.str a) ah q := by
  show q (.bl (neg != decide (a = a))) ah
  rw [decide_eq_true rfl]
  cases neg <;> exact h
end Z
namespace Z
open PySem PySem.Spec PyProof.Rows L2
local macro_rules | `(tactic| walk_at "zs") => `(tactic| (first | with_reducible refine y_seq ?_ | with_reducible refine y_asg ?_ | with_reducible refine y_expr ?_ | with_reducible refine y_ret ?_ | with_reducible refine y_retN ?_ | with_reducible refine y_next ?_ | with_reducible refine y_if ?_ | with_reducible refine y_par ?_ | with_reducible refine y_par3 ?_ | with_reducible refine y_put ?_ | with_reducible refine y_setF ?_ | with_reducible refine y_raise ?_ | with_reducible refine y_for ?_ | with_reducible refine y_c ?_ | with_reducible refine y_bin ?_ | with_reducible refine y_sl ?_ | with_reducible refine y_noP ?_ | with_reducible refine y_part ?_ | with_reducible refine y_tup ?_ | with_reducible refine y_lst ?_ | with_reducible refine y_andV ?_ | with_reducible refine y_orV ?_ | with_reducible refine y_notV ?_ | with_reducible refine y_ifE ?_ | with_reducible refine y_neg ?_ | with_reducible refine y_chain ?_ | with_reducible refine y_cal ?_ | with_reducible refine y_met ?_ | with_reducible refine y_call ?_ | with_reducible refine y_meth ?_ | with_reducible refine y_cmeth ?_ | with_reducible refine y_fld ?_ | with_reducible refine y_lc ?_ | with_reducible refine y_tst ?_ | with_reducible refine y_not ?_ | with_reducible refine y_and ?_ | with_reducible refine y_or ?_ | with_reducible refine y_yes ?_ | with_reducible refine y_nil ?_ | with_reducible refine y_cons ?_ | with_reducible refine y_iter ?_ | with_reducible refine y_itT ?_ | with_reducible refine y_itS ?_ | with_reducible refine y_gN ?_ | with_reducible refine y_gsN ?_ | with_reducible refine y_gsC ?_ | with_reducible refine y_newL ?_ | with_reducible refine y_addI ?_ | with_reducible refine y_subI ?_ | with_reducible refine y_leI ?_ | with_reducible refine y_geI ?_ | with_reducible refine y_ltI ?_ | with_reducible refine y_gtI ?_ | with_reducible refine y_eqI ?_ | with_reducible refine y_eqS ?_ | with_reducible refine y_lenT ?_ | with_reducible refine y_lenF ?_ | with_reducible refine y_int ?_ | with_reducible refine y_isN ?_ | with_reducible refine y_isI ?_ | with_reducible refine y_isS ?_ | with_reducible refine y_isT ?_ | with_reducible refine y_isR ?_ | with_reducible refine y_slT ?_ | with_reducible refine y_min ?_ | with_reducible refine y_max ?_ | with_reducible refine y_rng1 ?_ | with_reducible refine y_rng2 ?_ | with_reducible refine y_enum ?_ | with_reducible refine y_dict0 ?_ | ((with_reducible apply y_var); exact rfl) | ((with_reducible apply y_aug); exact rfl) | ((with_reducible refine y_gT ?_ ?_); exact rfl) | ((with_reducible apply y_atT); exact rfl) | ((with_reducible refine y_ifT ?_ ?_); exact rfl) | ((with_reducible refine y_ifF ?_ ?_); exact rfl) | ((with_reducible refine And.intro ?_ ?_); first | exact Nat.le_of_ble_eq_true rfl | exact trivial | assumption)))
local macro_rules | `(tactic| walk_at "zg") => `(tactic| (repeat walk_at "zs"))
local macro_rules | `(tactic| walk_at "get") => `(tactic| (repeat first | assumption | ((with_reducible apply get_is); exact rfl) | with_reducible refine get_past ?_))
local macro_rules | `(tactic| walk_at "ext") => `(tactic| (repeat first | assumption | exact Ext.refl | with_reducible refine ext_past ?_))
/-! ### steps for own defs -/
section
variable {env : En} {ah : AH} {q : QE} {x : QX} {w wa wb : WE} {ws : WA} {C : Str} {sp : DSp}
theorem y_lenI (h : w env ah (fun d ah1 => insAt C d ah1 (sp [d] ah1 (fun z ah2 => ∃ i : Int, z = .int i ∧ (0 ≤ i ∧ i < 2 ^ 63) ∧ q z ah2) x)) x) : wLenI C sp w env ah q x := h
theorem y_atI (h : wa env ah (fun d ah1 => wb env ah1 (fun i ah2 => insAt C d ah2 (sp [d, i] ah2 q x)) x) x) : wAtI C sp wa wb env ah q x := h
theorem y_callI (h : w env ah (fun d ah1 => insAt C d ah1 (ws env ah1 (fun ds ah2 => insAt C d ah2 (sp (d :: ds) ah2 q x)) x)) x) : wCallI C sp w ws env ah q x := h
theorem y_insA {n : Nat} {fs : List (Str × D)} {k : Prop} (hn : ah[n]? = some (.ins C fs)) (h : k) : insAt C (.ref n) ah k := by
  simp only [insAt, hn]; exact ⟨trivial, h⟩
end
/-! ### draws -/
theorem lawof_call {n a : Nat} {l : List D} {ah : AH} {q : QE} {x : QX} (h4 : 4 ≤ n) (hl : ah[n]? = some (.lst l)) (h0 : 0 < l.length) (h1 : l.length < 1000) (hs : SI a ah) (ha : a < 2 ^ 50) (hq : ∀ (d : D) (ah' : AH), d ∈ l → SI (a + 1) ah' → Fm ah ah' → q d ah') : sp__law_of [.ref 3, .ref n] ah q x := .inl ⟨n, a, l, rfl, h4, hl, h0, h1, hs, ha, hq⟩
theorem lawof_str {a : Nat} {z : Str} {ah : AH} {q : QE} {x : QX} (h0 : 0 < z.length) (h1 : z.length < 1000) (hs : SI a ah) (ha : a < 2 ^ 50) (hq : ∀ (c : Nat) (ah' : AH), c ∈ z.cps.toList → SI (a + 1) ah' → Fm ah ah' → q (.str ⟨#[c]⟩) ah') : sp__law_of [.ref 3, .str z] ah q x := .inr ⟨z, a, rfl, h0, h1, hs, ha, hq⟩
theorem draw_call {many a : Nat} {ah : AH} {q : QE} {x : QX} (h0 : 0 < many) (h1 : many < 2 ^ 64) (hs : SI a ah) (ha : a < 2 ^ 50) (hq : ∀ (r : Nat) (ah' : AH), r < many → SI (a + 1) ah' → Fm ah ah' → q (.int r) ah') : sp__law_draw [.ref 3, .int (many : Nat)] ah q x := ⟨many, a, rfl, h0, h1, hs, ha, hq⟩
theorem rules_call {b most many a : Nat} {ah : AH} {q : QE} {x : QX} (h2 : 2 ≤ b) (hb : b ≤ 10) (m1 : 1 ≤ most) (m6 : most ≤ 6) (m7 : many ≤ 7) (hs : SI a ah) (ha : a < 2 ^ 39) (hq : ∀ (rs : List D) (a' : Nat) (ah' : AH), OkR b rs → a' ≤ a + 2000 → SI a' ah' → Fm ah ah' → q (.tup rs) ah') :
    sp__law_rules [.ref 3, .int (b : Nat), .int (most : Nat), .int (many : Nat)] ah q x := ⟨b, most, many, a, rfl, h2, hb, m1, m6, m7, hs, ha, fun rs a' ah' h h1 h8 hl => hq rs a' ah' ⟨h, h1, h8, hl⟩⟩
/-! ### what can be seen of a thing, from a depth on -/
def Seen (k : Nat) (ah : AH) (d : D) (p : PyData) : Prop := ∀ n, k ≤ n → pdz n ah d = some p
def SeenL (k : Nat) (ah : AH) (l : List D) (ps : List PyData) : Prop := ∀ n, k ≤ n → pds (pdz n ah) l = some ps
theorem Seen.up {k m : Nat} {ah : AH} {d : D} {p : PyData} (h : Seen k ah d p) (hk : k ≤ m) : Seen m ah d p := fun n hn => h n (Nat.le_trans hk hn)
theorem SeenL.nil {k : Nat} {ah : AH} : SeenL k ah [] [] := fun _ _ => rfl
theorem SeenL.cons {k : Nat} {ah : AH} {d : D} {l : List D} {p : PyData} {ps : List PyData} (h : Seen k ah d p) (g : SeenL k ah l ps) : SeenL k ah (d :: l) (p :: ps) := fun n hn => by
  unfold pds
  rw [h n hn, g n hn]
theorem Seen.tup {k : Nat} {ah : AH} {l : List D} {ps : List PyData} (h : SeenL k ah l ps) : Seen (k + 1) ah (.tup l) (.tuple ps) := fun n hn => by
  obtain ⟨m, rfl⟩ : ∃ m, n = m + 1 := ⟨n - 1, by omega⟩
  unfold pdz
  rw [h m (by omega)]
  rfl
theorem Seen.lst {k n : Nat} {ah : AH} {l : List D} {ps : List PyData} (hn : ah[n]? = some (.lst l)) (h : SeenL k ah l ps) : Seen (k + 1) ah (.ref n) (.list ps) := fun m hm => by
  obtain ⟨j, rfl⟩ : ∃ j, m = j + 1 := ⟨m - 1, by omega⟩
  unfold pdz
  rw [hn]
  show (pds (pdz j ah) l).map PyData.list = _
  rw [h j (by omega)]
  rfl
theorem Seen.dct {n : Nat} {ah : AH} (hn : ah[n]? = some (.dct [])) : Seen 1 ah (.ref n) (.dict []) := fun m hm => by
  obtain ⟨j, rfl⟩ : ∃ j, m = j + 1 := ⟨m - 1, by omega⟩
  unfold pdz
  rw [hn]
theorem Seen.stiff {k : Nat} {ah : AH} {d : D} (h : stiff d = true) (hd : dep d ≤ k) : Seen k ah d (toP d) := fun n hn => pd_pdz ah n d _ (pd_stiff ah d n h (Nat.le_trans hd hn))
theorem SeenL.stiff {k : Nat} {ah : AH} {l : List D} (h : stiffs l = true) (hd : deps l ≤ k) : SeenL k ah l (toPs l) := fun n hn => pds_imp (fun d p e => pd_pdz ah n d p e) (pds_stiff ah l n h (Nat.le_trans hd hn))
theorem repr_seen {k : Nat} {ah : AH} {d : D} {p : PyData} {q : QE} (h : Seen k ah d p) (hk : k ≤ 20) (hf : fineP p = true) (hw : wt p ≤ 16777216) (hq : q (.str p.shown) ah) : gRepr [d] ah q := gRepr_fineZ (h 20 hk) hf hw hq
/-! ### numbers and texts can be shown -/
theorem sh_int {n : Nat} (h : n < 2 ^ 1900) : Sh (.int (n : Nat)) := by
  refine ⟨rfl, Nat.zero_le _, ?_, by show 1921 ≤ 200000; decide⟩
  show decide (((n : Nat) : Int).natAbs.log2 < 1920) = true
  rw [Int.natAbs_natCast]
  exact decide_eq_true (Nat.lt_of_lt_of_le (log2_nat (k := 1900) (by decide) h) (by decide))
theorem sh_str {z : Str} (h : ∀ c ∈ z.cps.toList, c < 16 ^ 8) (hl : z.length ≤ 19000) : Sh (.str z) := by
  refine ⟨rfl, Nat.zero_le _, List.all_eq_true.mpr fun c hc => decide_eq_true (h c hc), ?_⟩
  show 10 * z.length + 2 ≤ 200000
  omega
theorem dg_sign {l : List Nat} (hl : ∀ d ∈ l, d < 10) : ∀ c ∈ (dg l).cps.toList, c < 58 := fun c hc => by
  rw [dg_cps, List.mem_map] at hc
  obtain ⟨d, hd, rfl⟩ := hc
  have := hl d hd
  omega
/-- as often as told -/
theorem y_mulL {n : Nat} {l : List D} {k : Nat} {ah : AH} {q : QE} (hn : ah[n]? = some (.lst l)) (hk : k < 1000) (hl : l.length * k ≤ 16777216) (h : newL (List.replicate k l).flatten ah q) : fMul (.ref n) (.int (k : Nat)) ah q := by
  simp only [fMul, hn]
  refine ⟨by omega, by omega, ?_, ?_⟩
  · rw [Int.toNat_natCast]; exact hl
  · rw [Int.toNat_natCast]; exact h
end Z
namespace Z
open PySem PySem.Spec PyProof.Rows L2
local macro_rules | `(tactic| walk_at "zs") => `(tactic| (first | with_reducible refine y_seq ?_ | with_reducible refine y_asg ?_ | with_reducible refine y_expr ?_ | with_reducible refine y_ret ?_ | with_reducible refine y_retN ?_ | with_reducible refine y_next ?_ | with_reducible refine y_if ?_ | with_reducible refine y_par ?_ | with_reducible refine y_par3 ?_ | with_reducible refine y_put ?_ | with_reducible refine y_setF ?_ | with_reducible refine y_raise ?_ | with_reducible refine y_for ?_ | with_reducible refine y_c ?_ | with_reducible refine y_bin ?_ | with_reducible refine y_sl ?_ | with_reducible refine y_noP ?_ | with_reducible refine y_part ?_ | with_reducible refine y_tup ?_ | with_reducible refine y_lst ?_ | with_reducible refine y_andV ?_ | with_reducible refine y_orV ?_ | with_reducible refine y_notV ?_ | with_reducible refine y_ifE ?_ | with_reducible refine y_neg ?_ | with_reducible refine y_chain ?_ | with_reducible refine y_cal ?_ | with_reducible refine y_met ?_ | with_reducible refine y_call ?_ | with_reducible refine y_meth ?_ | with_reducible refine y_cmeth ?_ | with_reducible refine y_fld ?_ | with_reducible refine y_lc ?_ | with_reducible refine y_tst ?_ | with_reducible refine y_not ?_ | with_reducible refine y_and ?_ | with_reducible refine y_or ?_ | with_reducible refine y_yes ?_ | with_reducible refine y_nil ?_ | with_reducible refine y_cons ?_ | with_reducible refine y_iter ?_ | with_reducible refine y_itT ?_ | with_reducible refine y_itS ?_ | with_reducible refine y_gN ?_ | with_reducible refine y_gsN ?_ | with_reducible refine y_gsC ?_ | with_reducible refine y_newL ?_ | with_reducible refine y_addI ?_ | with_reducible refine y_subI ?_ | with_reducible refine y_leI ?_ | with_reducible refine y_geI ?_ | with_reducible refine y_ltI ?_ | with_reducible refine y_gtI ?_ | with_reducible refine y_eqI ?_ | with_reducible refine y_eqS ?_ | with_reducible refine y_lenT ?_ | with_reducible refine y_lenF ?_ | with_reducible refine y_int ?_ | with_reducible refine y_isN ?_ | with_reducible refine y_isI ?_ | with_reducible refine y_isS ?_ | with_reducible refine y_isT ?_ | with_reducible refine y_isR ?_ | with_reducible refine y_slT ?_ | with_reducible refine y_min ?_ | with_reducible refine y_max ?_ | with_reducible refine y_rng1 ?_ | with_reducible refine y_rng2 ?_ | with_reducible refine y_enum ?_ | with_reducible refine y_dict0 ?_ | with_reducible refine y_lenI ?_ | with_reducible refine y_atI ?_ | with_reducible refine y_callI ?_ | ((with_reducible apply y_var); exact rfl) | ((with_reducible apply y_aug); exact rfl) | ((with_reducible refine y_gT ?_ ?_); exact rfl) | ((with_reducible apply y_atT); exact rfl) | ((with_reducible refine y_ifT ?_ ?_); exact rfl) | ((with_reducible refine y_ifF ?_ ?_); exact rfl) | ((with_reducible refine And.intro ?_ ?_); first | exact Nat.le_of_ble_eq_true rfl | exact trivial | assumption)))
local macro_rules | `(tactic| walk_at "zg") => `(tactic| (repeat walk_at "zs"))
local macro_rules | `(tactic| walk_at "get") => `(tactic| (repeat first | assumption | ((with_reducible apply get_is); exact rfl) | with_reducible refine get_past ?_))
local macro_rules | `(tactic| walk_at "ext") => `(tactic| (repeat first | assumption | exact Ext.refl | with_reducible refine ext_past ?_))
/-- repr(x) != repr(y), the second one -/
theorem repr_same {k : Nat} {ah : AH} {d : D} {p : PyData} {q : QE} (h : Seen k ah d p) (hk : k ≤ 20) (hf : fineP p = true) (hw : wt p ≤ 16777216) (hq : q (.bl false) ah) : gRepr [d] ah (fun d2 ah2 => fEq true (.str p.shown) d2 ah2 q) := repr_seen h hk hf hw (fEq_refl hq)
/-! ### heaps that are the same but for one thing -/
def Em (m : Nat) (ah ah' : AH) : Prop := ∀ (k : Nat) (o : O), k ≠ m → ah[k]? = some o → ah'[k]? = some o
theorem Ext.em {m : Nat} {ah ah' : AH} (h : Ext ah ah') : Em m ah ah' := fun k o _ e => h k o e
theorem Em.trans {m : Nat} {a b c : AH} (h : Em m a b) (g : Em m b c) : Em m a c := fun k o hk e => g k o hk (h k o hk e)
theorem Em.refl {m : Nat} {a : AH} : Em m a a := fun _ _ _ e => e
theorem em_set {m : Nat} {ah : AH} {o : O} : Em m ah (ah.set m o) := fun k o' hk e => by rw [List.getElem?_set_ne (Ne.symm hk)]; exact e
theorem get_set {ah : AH} {m n : Nat} {o o' : O} (h : ah[n]? = some o) (hne : m ≠ n) : (ah.set m o')[n]? = some o := by rw [List.getElem?_set_ne hne]; exact h
theorem get_here {ah : AH} {m : Nat} {o o' : O} (h : ah[m]? = some o) : (ah.set m o')[m]? = some o' := List.getElem?_set_self (List.getElem?_eq_some_iff.mp h).1
theorem SI.em {a m : Nat} {ah ah' : AH} (h : SI a ah) (hm : 4 ≤ m) (e : Em m ah ah') : SI a ah' := by
  obtain ⟨cs, ls, h1, h2, h3, r⟩ := h.ex
  exact ⟨cs, ls, e _ _ (by omega) h1, e _ _ (by omega) h2, e _ _ (by omega) h3, r⟩
theorem at_lt {ah : AH} {n : Nat} {o : O} (h : ah[n]? = some o) : n < ah.length := (List.getElem?_eq_some_iff.mp h).1
/-- told.append(_law_raised(lambda: ..)) -/
theorem app_raise {m : Nat} {l : List D} {t : D} {wb : WE} {env : En} {ah : AH} {k : AH → Prop} {X : QX} (hm : ah[m]? = some (.lst l)) (hl : l.length < sizeLine)
    (hr : ∀ (q : QE) (x : QX), (∀ ah', Ext ah ah' → q t ah') → wRaised 4 w__law_raised wb env ah q x) (h : ∀ ah', Em m ah ah' → ah'[m]? = some (.lst (l ++ [t])) → k ah') :
    isLst (.ref m) ah ∧ wCons (wRaised 4 w__law_raised wb) wNil env ah (fun ds ah2 => fAppend (.ref m) ds ah2 fun _ ah1 => k ah1) X := by
  refine ⟨y_isL hm, y_cons (hr _ _ fun ah1 x1 => y_nil ?_)⟩
  have g := x1 _ _ hm
  refine y_appL g hl ?_
  exact h _ (x1.em.trans em_set) (get_here g)
/-- a call in a lambda that is refused -/
theorem raise_sp {sp : DSp} {ds : List D} {ws : WA} {e : XD} {t : D} {env : En} {ah : AH} {q : QE} {x : QX} (ht : Told e t) (hw : ∀ (ah : AH) (qa : List D → AH → Prop) (x : QX), qa ds ah → ws env ah qa x)
    (hsp : ∀ (ah1 : AH) (q : QE) (x : QX), Ext ah ah1 → (∀ ah', Ext ah1 ah' → x e ah') → sp ds ah1 q x) (hq : ∀ ah', Ext ah ah' → q t ah') : wRaised 4 w__law_raised (wCall sp [] ws) env ah q x := by
  refine raise_any fun q' x' _ h2 => y_call (hw _ _ _ ?_)
  rw [List.append_nil]
  exact hsp _ _ _ (Ext.push _) fun ah1 x1 => h2 _ _ _ x1 ht fun ah2 e2 _ => hq ah2 e2
/-! ### things, one of them perhaps a list -/
structure Sm (d : D) : Prop where
  sh : Sh d
  dp : dep d ≤ 10
  le : wt (toP d) ≤ 20000
def smB (d : D) : Bool := stiff d && (decide (dep d ≤ 10) && (fineP (toP d) && decide (wt (toP d) ≤ 20000)))
theorem sm_of {d : D} (h : smB d = true) : Sm d := by
  unfold smB at h
  simp only [Bool.and_eq_true, decide_eq_true_eq] at h
  exact ⟨⟨h.1, Nat.le_trans h.2.1 (by decide), h.2.2.1, Nat.le_trans h.2.2.2 (by decide)⟩, h.2.1, h.2.2.2⟩
/-- a thing that can be shown where the list r holds c -/
structure See (r : Nat) (c : List D) (d : D) (p : PyData) : Prop where
  fi : fineP p = true
  le : wt p ≤ 21000
  se : ∀ ah : AH, ah[r]? = some (.lst c) → Seen 13 ah d p
theorem Sm.see {d : D} {r : Nat} {c : List D} (h : Sm d) : See r c d (toP d) := ⟨h.sh.fi, Nat.le_trans h.le (by decide), fun ah _ => Seen.stiff h.sh.st (Nat.le_trans h.dp (by decide))⟩
theorem see_ref {r : Nat} {c : List D} (h : Sm (.tup c)) : See r c (.ref r) (.list (toPs c)) := by
  refine ⟨?_, ?_, fun ah hr => Seen.up (k := 12) (Seen.lst hr (SeenL.stiff ?_ ?_)) (by decide)⟩
  · have := h.sh.fi
    unfold toP at this
    exact this
  · have := h.le
    unfold toP at this
    show wts (toPs c) + 3 ≤ 21000
    have e : wt (.tuple (toPs c)) = wts (toPs c) + 3 := rfl
    omega
  · have := h.sh.st
    unfold stiff at this
    exact this
  · have := h.dp
    unfold dep at this
    omega
theorem see_of {r : Nat} {c : List D} {d : D} {L : List D} (hL : L.all smB = true) (hc : smB (.tup c) = true) (h : d ∈ L ∨ d = .ref r) : ∃ p, See r c d p := by
  rcases h with h | rfl
  · exact ⟨_, (sm_of (List.all_eq_true.mp hL d h)).see⟩
  · exact ⟨_, see_ref (sm_of hc)⟩
/-- a word and a thing -/
theorem See.pair {r : Nat} {c : List D} {d : D} {p : PyData} {w : Str} (h : See r c d p) : ∀ ah : AH, ah[r]? = some (.lst c) → Seen 14 ah (.tup [.str w, d]) (.tuple [.str w, p]) := fun ah hr => Seen.tup (SeenL.cons (Seen.stiff rfl (Nat.zero_le _)) (SeenL.cons (h.se ah hr) SeenL.nil))
theorem fine_pair {w : Str} {p : PyData} (hw : fineP (.str w) = true) (h : fineP p = true) : fineP (.tuple [.str w, p]) = true := by
  show (fineP (.str w) && (fineP p && true)) = true
  rw [hw, h]; rfl
theorem wt_pair {w : Str} {p : PyData} (hw : w.length ≤ 100) (h : wt p ≤ 21000) : wt (.tuple [.str w, p]) ≤ 23000 := by
  show (10 * w.length + 2) + 2 + (wt p + 2 + 0) + 3 ≤ 23000
  omega
theorem fines_cons {p : PyData} {ps : List PyData} (h : fineP p = true) (g : finePs ps = true) : finePs (p :: ps) = true := by
  show (fineP p && finePs ps) = true
  rw [h, g]; rfl
theorem ty_ref {ah : AH} {r : Nat} {c : List D} (h : ah[r]? = some (.lst c)) : (tyD ah (.ref r)).isSome = true := by simp only [tyD, h]; rfl
theorem ty_all {L : List D} {d : D} {ah : AH} (hL : L.all stiff = true) (h : d ∈ L) : (tyD ah d).isSome = true := by
  have := List.all_eq_true.mp hL d h
  cases d <;> first | rfl | (unfold stiff at this; cases this)
theorem ty_of {L : List D} {d : D} {ah : AH} {r : Nat} {c : List D} (hL : L.all stiff = true) (hr : ah[r]? = some (.lst c)) (h : d ∈ L ∨ d = .ref r) : (tyD ah d).isSome = true := by
  rcases h with h | rfl
  · exact ty_all hL h
  · exact ty_ref hr
end Z
namespace Z
open PySem PySem.Spec PyProof.Rows L2
/-! ### repr of plain data tells them apart -/
abbrev cl (s : Str) : List Nat := s.cps.toList
theorem cl_add (a b : Str) : cl (a ++ b) = cl a ++ cl b := by
  show (a.cps ++ b.cps).toList = _
  rw [Array.toList_append]
theorem cl_inj {a b : Str} (h : cl a = cl b) : a = b := by
  cases a; cases b
  exact congrArg Str.mk (Array.toList_inj.mp h)
/-- a sign that stays as it is in repr -/
def plC (c : Nat) : Bool := decide (32 ≤ c) && decide (c < 127) && c != 39 && c != 92
mutual
def plain : PyData → Bool
  | .none => true
  | .bool _ => true
  | .int i => decide (0 ≤ i) && decide (i < 100)
  | .str z => z.cps.toList.all plC
  | .list l => plains l
  | .tuple l => plains l
  | .dict _ => false
def plains : List PyData → Bool
  | [] => true
  | p :: l => plain p && plains l
end
theorem plC_ok : ∀ c, plC c = true → Builtin.Str.reprChar 39 c = [c] := by
  have h : (List.range 127).all (fun c => !plC c || Builtin.Str.reprChar 39 c == [c]) = true := by decide +kernel
  intro c hc
  have h1 : c < 127 := by
    simp only [plC, Bool.and_eq_true, decide_eq_true_eq] at hc; exact hc.1.1.2
  have h2 := List.all_eq_true.mp h c (List.mem_range.mpr h1)
  rw [hc] at h2
  simpa using h2
theorem plC_39 {c : Nat} (h : plC c = true) : c ≠ 39 := by
  simp only [plC, Bool.and_eq_true, bne_iff_ne] at h; exact h.1.2
theorem fold_plain : ∀ (l : List Nat) (acc : Array Nat), l.all plC = true → (l.foldl (fun out c => out ++ (Builtin.Str.reprChar 39 c).toArray) acc).toList = acc.toList ++ l
  | [], acc, _ => by simp
  | c :: l, acc, h => by
    rw [List.all_cons, Bool.and_eq_true] at h
    rw [List.foldl_cons, fold_plain l _ h.2, plC_ok c h.1]
    simp
theorem cl_str {z : Str} (h : z.cps.toList.all plC = true) : cl (reprText z) = 39 :: (cl z ++ [39]) := by
  have hq : reprQuote z = 39 := by
    unfold reprQuote
    have : z.cps.contains 39 = false := by
      rw [Bool.eq_false_iff]
      intro hc
      have hm : (39 : Nat) ∈ z.cps := by simpa using hc
      exact plC_39 (List.all_eq_true.mp h 39 (Array.mem_toList_iff.mpr hm)) rfl
    rw [this]; rfl
  show (((z.cps.foldl (fun out c => out ++ (Builtin.Str.reprChar (reprQuote z) c).toArray) #[reprQuote z]).push (reprQuote z))).toList = _
  rw [hq, Array.toList_push, ← Array.foldl_toList, fold_plain _ _ h]
  rfl
/-- behind the first of a row: each with a comma ahead, then the closing -/
def rowT (c : List Nat) : List (List Nat) → List Nat
  | [] => c
  | x :: l => 44 :: 32 :: (x ++ rowT c l)
theorem cl_from : ∀ (ts : List Str) (k : Nat) (acc : Str), 0 < k → cl (textFrom k acc ts) = cl acc ++ rowT [] (ts.map cl)
  | [], k, acc, _ => by simp [textFrom, rowT]
  | t :: ts, k, acc, hk => by
    unfold textFrom
    rw [cl_from ts (k + 1) _ (by omega), cl_add, cl_add, if_pos hk]
    have : cl (Str.ofString ", ") = [44, 32] := by decide +kernel
    show (cl acc ++ cl (Str.ofString ", ") ++ cl t) ++ _ = _
    rw [this, List.map_cons, rowT]
    simp
theorem rowT_app (c d : List Nat) : ∀ l, rowT c l ++ d = rowT (c ++ d) l
  | [] => rfl
  | x :: l => by simp [rowT, rowT_app c d l]
theorem cl_list_nil : cl (listText []) = [91, 93] := by decide +kernel
theorem cl_list_cons (t : Str) (ts : List Str) : cl (listText (t :: ts)) = 91 :: (cl t ++ rowT [93] (ts.map cl)) := by
  unfold listText
  rw [cl_add]
  unfold textFrom
  rw [cl_from _ _ _ (by omega), cl_add, cl_add]
  have e1 : cl (("[" : String) : Str) = [91] := by decide +kernel
  have e2 : cl (Str.ofString (if 0 > 0 then ", " else "")) = [] := by decide +kernel
  have e3 : cl (("]" : String) : Str) = [93] := by decide +kernel
  show (cl ("[" : Str) ++ cl (Str.ofString (if 0 > 0 then ", " else "")) ++ cl t ++ _) ++ cl ("]" : Str) = _
  rw [e1, e2, e3, List.append_assoc, rowT_app]
  simp
theorem cl_join : ∀ (t : Str) (ts : List Str), cl (Str.join ", " (t :: ts)) = cl t ++ rowT [] (ts.map cl)
  | t, [] => by show cl t = _; simp [rowT]
  | t, u :: ts => by
    show cl (t ++ ", " ++ Str.join ", " (u :: ts)) = _
    rw [cl_add, cl_add, cl_join u ts]
    have : cl ((", " : String) : Str) = [44, 32] := by decide +kernel
    rw [this, List.map_cons, rowT]
    simp
theorem cl_tup_nil : cl (tupleText []) = [40, 41] := by decide +kernel
theorem cl_tup_one (t : Str) : cl (tupleText [t]) = 40 :: (cl t ++ [44, 41]) := by
  unfold tupleText
  rw [cl_add, cl_add, cl_join]
  have e1 : cl (("(" : String) : Str) = [40] := by decide +kernel
  have e2 : cl (Str.ofString ",)") = [44, 41] := by decide +kernel
  show (cl ("(" : Str) ++ _) ++ cl (Str.ofString ",)") = _
  rw [e1, e2]; simp [rowT]
theorem cl_tup_more (t u : Str) (ts : List Str) : cl (tupleText (t :: u :: ts)) = 40 :: (cl t ++ rowT [41] ((u :: ts).map cl)) := by
  unfold tupleText
  rw [cl_add, cl_add, cl_join]
  have e1 : cl (("(" : String) : Str) = [40] := by decide +kernel
  have e2 : cl (Str.ofString ")") = [41] := by decide +kernel
  have e3 : ((t :: u :: ts).length == 1) = false := by simp
  rw [e3]
  show (cl ("(" : Str) ++ _) ++ cl (Str.ofString ")") = _
  rw [e1, e2, List.append_assoc, List.append_assoc, rowT_app]; simp
/-! ints of one or two digits -/
def stop (r : List Nat) : Prop := ∀ c l, r = c :: l → c = 44 ∨ c = 41 ∨ c = 93
def dgC (c : Nat) : Bool := decide (48 ≤ c) && decide (c ≤ 57)
theorem int_tab : (List.range 100).all (fun n => (cl (PyData.shown (.int n))).all dgC && cl (PyData.shown (.int n)) != []) = true := by decide +kernel
theorem int_tab2 : (List.range 100).all (fun n => (List.range 100).all fun m => n == m || cl (PyData.shown (.int n)) != cl (PyData.shown (.int m))) = true := by decide +kernel
theorem int_tell {n : Nat} (h : n < 100) : (cl (PyData.shown (.int n))).all dgC = true ∧ cl (PyData.shown (.int n)) ≠ [] := by
  have := List.all_eq_true.mp int_tab n (List.mem_range.mpr h)
  rw [Bool.and_eq_true] at this
  exact ⟨this.1, by simpa using this.2⟩
theorem int_apart {n m : Nat} (h : n < 100) (h2 : m < 100) (e : cl (PyData.shown (.int n)) = cl (PyData.shown (.int m))) : n = m := by
  have := List.all_eq_true.mp (List.all_eq_true.mp int_tab2 n (List.mem_range.mpr h)) m (List.mem_range.mpr h2)
  rw [e] at this
  simpa using this
theorem cut_same {P : Nat → Prop} : ∀ {a b r s : List Nat}, (∀ c ∈ a, P c) → (∀ c ∈ b, P c) → (∀ c l, r = c :: l → ¬ P c) → (∀ c l, s = c :: l → ¬ P c) → a ++ r = b ++ s → a = b ∧ r = s
  | [], [], r, s, _, _, _, _, e => ⟨rfl, e⟩
  | [], c :: b, r, s, _, hb, hr, _, e => absurd (hb c (List.mem_cons_self ..)) (hr c (b ++ s) e)
  | c :: a, [], r, s, ha, _, _, hs, e => absurd (ha c (List.mem_cons_self ..)) (hs c (a ++ r) e.symm)
  | c :: a, d :: b, r, s, ha, hb, hr, hs, e => by
    injection e with e1 e2
    subst e1
    have := cut_same (fun x h => ha x (List.mem_cons_of_mem _ h)) (fun x h => hb x (List.mem_cons_of_mem _ h)) hr hs e2
    exact ⟨by rw [this.1], this.2⟩
/-! what kind of thing begins so -/
def kc (c : Nat) : Nat := if c = 78 then 0 else if c = 84 then 1 else if c = 70 then 2 else if c = 39 then 3 else if c = 91 then 4 else if c = 40 then 5 else if dgC c = true then 6 else 7
def kd : PyData → Nat
  | .none => 0
  | .bool b => if b then 1 else 2
  | .str _ => 3
  | .list _ => 4
  | .tuple _ => 5
  | .int _ => 6
  | .dict _ => 8
theorem dgC_kc {c : Nat} (h : dgC c = true) : kc c = 6 := by
  have h' := h
  simp only [dgC, Bool.and_eq_true, decide_eq_true_eq] at h'
  unfold kc
  rw [if_neg (by omega), if_neg (by omega), if_neg (by omega), if_neg (by omega), if_neg (by omega), if_neg (by omega), if_pos h]
theorem cl_list (l : List PyData) : ∃ t, cl (PyData.shown (.list l)) = 91 :: t := by
  cases l with
  | nil => exact ⟨_, cl_list_nil⟩
  | cons p l => exact ⟨_, cl_list_cons _ _⟩
theorem cl_tup (l : List PyData) : ∃ t, cl (PyData.shown (.tuple l)) = 40 :: t := by
  match l with
  | [] => exact ⟨_, cl_tup_nil⟩
  | [p] => exact ⟨_, cl_tup_one _⟩
  | p :: q :: l => exact ⟨_, cl_tup_more _ _ _⟩
theorem small_int {i : Int} (h : plain (.int i) = true) : ∃ n : Nat, n < 100 ∧ i = n := by
  simp only [plain, Bool.and_eq_true, decide_eq_true_eq] at h
  exact ⟨i.toNat, by omega, by omega⟩
theorem head_kd : ∀ (p : PyData), plain p = true → ∃ c t, cl p.shown = c :: t ∧ kc c = kd p
  | .none, _ => ⟨78, [111, 110, 101], by decide +kernel, rfl⟩
  | .bool true, _ => ⟨84, [114, 117, 101], by decide +kernel, rfl⟩
  | .bool false, _ => ⟨70, [97, 108, 115, 101], by decide +kernel, rfl⟩
  | .int i, h => by
    obtain ⟨n, hn, rfl⟩ := small_int h
    obtain ⟨h1, h2⟩ := int_tell hn
    cases e : cl (PyData.shown (.int n)) with
    | nil => exact absurd e h2
    | cons c t =>
      rw [e, List.all_cons, Bool.and_eq_true] at h1
      exact ⟨c, t, rfl, dgC_kc h1.1⟩
  | .str z, h => ⟨39, _, cl_str h, rfl⟩
  | .list l, _ => let ⟨t, ht⟩ := cl_list l; ⟨91, t, ht, rfl⟩
  | .tuple l, _ => let ⟨t, ht⟩ := cl_tup l; ⟨40, t, ht, rfl⟩
theorem same_kd {p q : PyData} (hp : plain p = true) (hq : plain q = true) {r s : List Nat} (e : cl p.shown ++ r = cl q.shown ++ s) : kd p = kd q := by
  obtain ⟨c, t, h1, h2⟩ := head_kd p hp
  obtain ⟨d, u, h3, h4⟩ := head_kd q hq
  rw [h1, h3] at e
  injection e with e1 _
  rw [← h2, ← h4, e1]
theorem no_head {p : PyData} (hp : plain p = true) {c : Nat} {r s : List Nat} (hc : kc c = 7) (e : cl p.shown ++ r = c :: s) : False := by
  obtain ⟨d, t, h1, h2⟩ := head_kd p hp
  rw [h1] at e
  injection e with e1 _
  subst e1
  rw [hc] at h2
  cases p with
  | bool b => cases b <;> exact absurd h2 (by decide)
  | none => exact absurd h2 (by decide)
  | int _ => exact absurd h2 (by simp [kd])
  | str _ => exact absurd h2 (by simp [kd])
  | list _ => exact absurd h2 (by simp [kd])
  | tuple _ => exact absurd h2 (by simp [kd])
  | dict _ => exact absurd h2 (by simp [kd])
theorem stop_cons {c : Nat} {l : List Nat} (h : c = 44 ∨ c = 41 ∨ c = 93) : stop (c :: l) := fun d m e => by
  injection e with e1 _
  rw [← e1]; exact h
theorem stop_row {x : Nat} (hx : x = 41 ∨ x = 93) (l : List (List Nat)) (r : List Nat) : stop (rowT [x] l ++ r) := by
  cases l with
  | nil => exact stop_cons (Or.inr hx)
  | cons y l => exact stop_cons (Or.inl rfl)
mutual
theorem apart : ∀ (p : PyData), plain p = true → ∀ (q : PyData), plain q = true → ∀ r s, stop r → stop s → cl p.shown ++ r = cl q.shown ++ s → p = q ∧ r = s
  | .none, hp, q, hq, r, s, hr, hs, e => by
    have k := same_kd hp hq e
    cases q with
    | none => exact ⟨rfl, List.append_cancel_left e⟩
    | bool b => cases b <;> exact absurd k (by decide)
    | int _ => exact absurd k (by simp [kd])
    | str _ => exact absurd k (by simp [kd])
    | list _ => exact absurd k (by simp [kd])
    | tuple _ => exact absurd k (by simp [kd])
    | dict _ => exact absurd k (by simp [kd])
  | .bool a, hp, q, hq, r, s, hr, hs, e => by
    have k := same_kd hp hq e
    cases q with
    | none => cases a <;> exact absurd k (by decide)
    | bool b =>
      cases a <;> cases b
      · exact ⟨rfl, List.append_cancel_left e⟩
      · exact absurd k (by decide)
      · exact absurd k (by decide)
      · exact ⟨rfl, List.append_cancel_left e⟩
    | int _ => cases a <;> exact absurd k (by simp [kd])
    | str _ => cases a <;> exact absurd k (by simp [kd])
    | list _ => cases a <;> exact absurd k (by simp [kd])
    | tuple _ => cases a <;> exact absurd k (by simp [kd])
    | dict _ => cases a <;> exact absurd k (by simp [kd])
  | .int i, hp, q, hq, r, s, hr, hs, e => by
    have k := same_kd hp hq e
    cases q with
    | none => exact absurd k (by simp [kd])
    | bool b => cases b <;> exact absurd k (by simp [kd])
    | int j =>
      obtain ⟨n, hn, rfl⟩ := small_int hp
      obtain ⟨m, hm, rfl⟩ := small_int hq
      have no : ∀ c, (c = 44 ∨ c = 41 ∨ c = 93) → ¬ dgC c = true := by
        rintro c (rfl | rfl | rfl) <;> decide
      have := cut_same (P := fun c => dgC c = true) (fun c hc => List.all_eq_true.mp (int_tell hn).1 c hc) (fun c hc => List.all_eq_true.mp (int_tell hm).1 c hc)
        (fun c l h => no c (hr c l h)) (fun c l h => no c (hs c l h)) e
      exact ⟨by rw [int_apart hn hm this.1], this.2⟩
    | str _ => exact absurd k (by simp [kd])
    | list _ => exact absurd k (by simp [kd])
    | tuple _ => exact absurd k (by simp [kd])
    | dict _ => exact absurd k (by simp [kd])
  | .str x, hp, q, hq, r, s, hr, hs, e => by
    have k := same_kd hp hq e
    cases q with
    | none => exact absurd k (by simp [kd])
    | bool b => cases b <;> exact absurd k (by simp [kd])
    | int _ => exact absurd k (by simp [kd])
    | str y =>
      have ex : cl (PyData.shown (.str x)) = _ := cl_str hp
      have ey : cl (PyData.shown (.str y)) = _ := cl_str hq
      rw [ex, ey] at e
      injection e with _ e2
      simp only [List.append_eq, List.append_assoc] at e2
      have := cut_same (P := fun c => plC c = true) (fun c hc => List.all_eq_true.mp hp c hc) (fun c hc => List.all_eq_true.mp hq c hc)
        (fun c l h => by injection h with h1 _; rw [← h1]; decide) (fun c l h => by injection h with h1 _; rw [← h1]; decide) e2
      exact ⟨by rw [cl_inj this.1], by injection this.2⟩
    | list _ => exact absurd k (by simp [kd])
    | tuple _ => exact absurd k (by simp [kd])
    | dict _ => exact absurd k (by simp [kd])
  | .list l, hp, q, hq, r, s, hr, hs, e => by
    have k := same_kd hp hq e
    cases q with
    | none => exact absurd k (by simp [kd])
    | bool b => cases b <;> exact absurd k (by simp [kd])
    | int _ => exact absurd k (by simp [kd])
    | str _ => exact absurd k (by simp [kd])
    | tuple _ => exact absurd k (by simp [kd])
    | dict _ => exact absurd k (by simp [kd])
    | list m =>
      change plains l = true at hp
      change plains m = true at hq
      change cl (listText (PyData.shownAll l)) ++ r = cl (listText (PyData.shownAll m)) ++ s at e
      cases l with
      | nil =>
        cases m with
        | nil => exact ⟨rfl, List.append_cancel_left e⟩
        | cons q m =>
          rw [plains, Bool.and_eq_true] at hq
          rw [PyData.shownAll, PyData.shownAll, cl_list_nil, cl_list_cons] at e
          injection e with _ e2
          simp only [List.append_eq, List.append_assoc] at e2
          exact absurd e2.symm fun h => no_head hq.1 (by decide) h
      | cons p l =>
        rw [plains, Bool.and_eq_true] at hp
        cases m with
        | nil =>
          rw [PyData.shownAll, PyData.shownAll, cl_list_nil, cl_list_cons] at e
          injection e with _ e2
          simp only [List.append_eq, List.append_assoc] at e2
          exact absurd e2 fun h => no_head hp.1 (by decide) h
        | cons q m =>
          rw [plains, Bool.and_eq_true] at hq
          rw [PyData.shownAll, PyData.shownAll, cl_list_cons, cl_list_cons] at e
          injection e with _ e2
          simp only [List.append_eq, List.append_assoc] at e2
          obtain ⟨e3, e4⟩ := apart p hp.1 q hq.1 _ _ (stop_row (Or.inr rfl) _ _) (stop_row (Or.inr rfl) _ _) e2
          obtain ⟨e5, e6⟩ := aparts l hp.2 m hq.2 93 (Or.inr rfl) r s e4
          exact ⟨by rw [e3, e5], e6⟩
  | .tuple l, hp, q, hq, r, s, hr, hs, e => by
    have k := same_kd hp hq e
    cases q with
    | none => exact absurd k (by simp [kd])
    | bool b => cases b <;> exact absurd k (by simp [kd])
    | int _ => exact absurd k (by simp [kd])
    | str _ => exact absurd k (by simp [kd])
    | list _ => exact absurd k (by simp [kd])
    | dict _ => exact absurd k (by simp [kd])
    | tuple m =>
      change plains l = true at hp
      change plains m = true at hq
      change cl (tupleText (PyData.shownAll l)) ++ r = cl (tupleText (PyData.shownAll m)) ++ s at e
      match l, m with
      | [], [] => exact ⟨rfl, List.append_cancel_left e⟩
      | [], [q] =>
        rw [plains, Bool.and_eq_true] at hq
        simp only [PyData.shownAll, cl_tup_nil, cl_tup_one] at e
        injection e with _ e2
        simp only [List.append_eq, List.append_assoc] at e2
        exact absurd e2.symm fun h => no_head hq.1 (by decide) h
      | [], q :: q2 :: m =>
        rw [plains, Bool.and_eq_true] at hq
        simp only [PyData.shownAll, cl_tup_nil, cl_tup_more] at e
        injection e with _ e2
        simp only [List.append_eq, List.append_assoc] at e2
        exact absurd e2.symm fun h => no_head hq.1 (by decide) h
      | [p], [] =>
        rw [plains, Bool.and_eq_true] at hp
        simp only [PyData.shownAll, cl_tup_nil, cl_tup_one] at e
        injection e with _ e2
        simp only [List.append_eq, List.append_assoc] at e2
        exact absurd e2 fun h => no_head hp.1 (by decide) h
      | p :: p2 :: l, [] =>
        rw [plains, Bool.and_eq_true] at hp
        simp only [PyData.shownAll, cl_tup_nil, cl_tup_more] at e
        injection e with _ e2
        simp only [List.append_eq, List.append_assoc] at e2
        exact absurd e2 fun h => no_head hp.1 (by decide) h
      | [p], [q] =>
        rw [plains, Bool.and_eq_true] at hp hq
        simp only [PyData.shownAll, cl_tup_one] at e
        injection e with _ e2
        simp only [List.append_eq, List.append_assoc] at e2
        obtain ⟨e3, e4⟩ := apart p hp.1 q hq.1 _ _ (stop_cons (Or.inl rfl)) (stop_cons (Or.inl rfl)) e2
        injection e4 with _ e5
        injection e5 with _ e6
        exact ⟨by rw [e3], e6⟩
      | [p], q :: q2 :: m =>
        rw [plains, Bool.and_eq_true] at hp hq
        simp only [PyData.shownAll, cl_tup_one, cl_tup_more] at e
        injection e with _ e2
        simp only [List.append_eq, List.append_assoc] at e2
        obtain ⟨e3, e4⟩ := apart p hp.1 q hq.1 _ _ (stop_cons (Or.inl rfl)) (stop_row (Or.inl rfl) _ _) e2
        injection e4 with _ e5
        injection e5 with e6 _
        exact absurd e6 (by decide)
      | p :: p2 :: l, [q] =>
        rw [plains, Bool.and_eq_true] at hp hq
        simp only [PyData.shownAll, cl_tup_one, cl_tup_more] at e
        injection e with _ e2
        simp only [List.append_eq, List.append_assoc] at e2
        obtain ⟨e3, e4⟩ := apart p hp.1 q hq.1 _ _ (stop_row (Or.inl rfl) _ _) (stop_cons (Or.inl rfl)) e2
        injection e4 with _ e5
        injection e5 with e6 _
        exact absurd e6 (by decide)
      | p :: p2 :: l, q :: q2 :: m =>
        rw [plains, Bool.and_eq_true] at hp hq
        simp only [PyData.shownAll, cl_tup_more] at e
        injection e with _ e2
        simp only [List.append_eq, List.append_assoc] at e2
        obtain ⟨e3, e4⟩ := apart p hp.1 q hq.1 _ _ (stop_row (Or.inl rfl) _ _) (stop_row (Or.inl rfl) _ _) e2
        obtain ⟨e5, e6⟩ := aparts (p2 :: l) hp.2 (q2 :: m) hq.2 41 (Or.inl rfl) r s e4
        exact ⟨by rw [e3, e5], e6⟩
theorem aparts : ∀ (l : List PyData), plains l = true → ∀ (m : List PyData), plains m = true → ∀ x, (x = 41 ∨ x = 93) → ∀ r s, rowT [x] ((PyData.shownAll l).map cl) ++ r = rowT [x] ((PyData.shownAll m).map cl) ++ s → l = m ∧ r = s
  | [], hp, [], hq, x, hx, r, s, e => ⟨rfl, List.append_cancel_left e⟩
  | [], hp, q :: m, hq, x, hx, r, s, e => by
    injection e with e1 _
    omega
  | p :: l, hp, [], hq, x, hx, r, s, e => by
    injection e with e1 _
    omega
  | p :: l, hp, q :: m, hq, x, hx, r, s, e => by
    rw [plains, Bool.and_eq_true] at hp hq
    injection e with _ e1
    injection e1 with _ e2
    simp only [List.append_eq, List.append_assoc] at e2
    obtain ⟨e3, e4⟩ := apart p hp.1 q hq.1 _ _ (stop_row hx _ _) (stop_row hx _ _) e2
    obtain ⟨e5, e6⟩ := aparts l hp.2 m hq.2 x hx r s e4
    exact ⟨by rw [e3, e5], e6⟩
end
theorem shown_inj {p q : PyData} (hp : plain p = true) (hq : plain q = true) (e : p.shown = q.shown) : p = q :=
  (apart p hp q hq [] [] (fun _ _ h => nomatch h) (fun _ _ h => nomatch h) (by rw [e])).1
end Z
namespace Z
open PySem PySem.Spec PyProof.Rows L2
local macro_rules | `(tactic| walk_at "zs") => `(tactic| (first | with_reducible refine y_seq ?_ | with_reducible refine y_asg ?_ | with_reducible refine y_expr ?_ | with_reducible refine y_ret ?_ | with_reducible refine y_retN ?_ | with_reducible refine y_next ?_ | with_reducible refine y_if ?_ | with_reducible refine y_par ?_ | with_reducible refine y_par3 ?_ | with_reducible refine y_put ?_ | with_reducible refine y_setF ?_ | with_reducible refine y_raise ?_ | with_reducible refine y_for ?_ | with_reducible refine y_c ?_ | with_reducible refine y_bin ?_ | with_reducible refine y_sl ?_ | with_reducible refine y_noP ?_ | with_reducible refine y_part ?_ | with_reducible refine y_tup ?_ | with_reducible refine y_lst ?_ | with_reducible refine y_andV ?_ | with_reducible refine y_orV ?_ | with_reducible refine y_notV ?_ | with_reducible refine y_ifE ?_ | with_reducible refine y_neg ?_ | with_reducible refine y_chain ?_ | with_reducible refine y_cal ?_ | with_reducible refine y_met ?_ | with_reducible refine y_call ?_ | with_reducible refine y_meth ?_ | with_reducible refine y_cmeth ?_ | with_reducible refine y_fld ?_ | with_reducible refine y_lc ?_ | with_reducible refine y_tst ?_ | with_reducible refine y_not ?_ | with_reducible refine y_and ?_ | with_reducible refine y_or ?_ | with_reducible refine y_yes ?_ | with_reducible refine y_nil ?_ | with_reducible refine y_cons ?_ | with_reducible refine y_iter ?_ | with_reducible refine y_itT ?_ | with_reducible refine y_itS ?_ | with_reducible refine y_gN ?_ | with_reducible refine y_gsN ?_ | with_reducible refine y_gsC ?_ | with_reducible refine y_newL ?_ | with_reducible refine y_addI ?_ | with_reducible refine y_subI ?_ | with_reducible refine y_leI ?_ | with_reducible refine y_geI ?_ | with_reducible refine y_ltI ?_ | with_reducible refine y_gtI ?_ | with_reducible refine y_eqI ?_ | with_reducible refine y_eqS ?_ | with_reducible refine y_lenT ?_ | with_reducible refine y_lenF ?_ | with_reducible refine y_int ?_ | with_reducible refine y_isN ?_ | with_reducible refine y_isI ?_ | with_reducible refine y_isS ?_ | with_reducible refine y_isT ?_ | with_reducible refine y_isR ?_ | with_reducible refine y_slT ?_ | with_reducible refine y_min ?_ | with_reducible refine y_max ?_ | with_reducible refine y_rng1 ?_ | with_reducible refine y_rng2 ?_ | with_reducible refine y_enum ?_ | with_reducible refine y_dict0 ?_ | with_reducible refine y_lenI ?_ | with_reducible refine y_atI ?_ | with_reducible refine y_callI ?_ | ((with_reducible apply y_var); exact rfl) | ((with_reducible apply y_aug); exact rfl) | ((with_reducible refine y_gT ?_ ?_); exact rfl) | ((with_reducible apply y_atT); exact rfl) | ((with_reducible refine y_ifT ?_ ?_); exact rfl) | ((with_reducible refine y_ifF ?_ ?_); exact rfl) | ((with_reducible refine And.intro ?_ ?_); first | exact Nat.le_of_ble_eq_true rfl | exact trivial | assumption)))
local macro_rules | `(tactic| walk_at "zg") => `(tactic| (repeat walk_at "zs"))
local macro_rules | `(tactic| walk_at "get") => `(tactic| (repeat first | assumption | ((with_reducible apply get_is); exact rfl) | with_reducible refine get_past ?_))
local macro_rules | `(tactic| walk_at "ext") => `(tactic| (repeat first | assumption | exact Ext.refl | with_reducible refine ext_past ?_))
/-! ### len(style), style[number] -/
def sp_Style___len__ : DSp := fun ds ah q _ => ∃ n b rs, ds = [.ref n] ∧ ah[n]? = some (styO b rs) ∧ rs.length ≤ 8 ∧ q (.int rs.length) ah
def w_Style___len__ : WS := (wRet (wCal gLen (wCons (wFld ["Style"] "own_rules" (wVar 0)) wNil)))
theorem wp_Style___len__ (ds : List D) (ah : AH) (q : QE) (x : QX) (h : sp_Style___len__ ds ah q x) : w_Style___len__ (startD 1 ds) ah { nx := fun _ ah' => q .non ah', rt := q } (fun e _ ah' => x e ah') := by
  obtain ⟨n, b, rs, rfl, hn, h8, hq⟩ := h
  show w_Style___len__ [some (.ref n)] ah _ _
  unfold w_Style___len__
  walk_at "zg"
  refine y_fldI hn (by decide) look_rules ?_
  walk_at "zg"
  exact hq
theorem len_call {n b : Nat} {rs : List D} {ah : AH} {q : QE} {x : QX} (hn : ah[n]? = some (styO (.int b) rs)) (h8 : rs.length ≤ 8) (hq : q (.int rs.length) ah) : wLenI "Style" sp_Style___len__ (wC (.ref n)) [] ah q x := by
  refine y_lenI (y_c (y_insA hn ⟨n, _, rs, rfl, hn, h8, _, rfl, ⟨by omega, ?_⟩, hq⟩))
  omega
end Z
namespace Z
open PySem PySem.Spec PyProof.Rows L2
local macro_rules | `(tactic| walk_at "zs") => `(tactic| (first | with_reducible refine y_seq ?_ | with_reducible refine y_asg ?_ | with_reducible refine y_expr ?_ | with_reducible refine y_ret ?_ | with_reducible refine y_retN ?_ | with_reducible refine y_next ?_ | with_reducible refine y_if ?_ | with_reducible refine y_par ?_ | with_reducible refine y_par3 ?_ | with_reducible refine y_put ?_ | with_reducible refine y_setF ?_ | with_reducible refine y_raise ?_ | with_reducible refine y_for ?_ | with_reducible refine y_c ?_ | with_reducible refine y_bin ?_ | with_reducible refine y_sl ?_ | with_reducible refine y_noP ?_ | with_reducible refine y_part ?_ | with_reducible refine y_tup ?_ | with_reducible refine y_lst ?_ | with_reducible refine y_andV ?_ | with_reducible refine y_orV ?_ | with_reducible refine y_notV ?_ | with_reducible refine y_ifE ?_ | with_reducible refine y_neg ?_ | with_reducible refine y_chain ?_ | with_reducible refine y_cal ?_ | with_reducible refine y_met ?_ | with_reducible refine y_call ?_ | with_reducible refine y_meth ?_ | with_reducible refine y_cmeth ?_ | with_reducible refine y_fld ?_ | with_reducible refine y_lc ?_ | with_reducible refine y_tst ?_ | with_reducible refine y_not ?_ | with_reducible refine y_and ?_ | with_reducible refine y_or ?_ | with_reducible refine y_yes ?_ | with_reducible refine y_nil ?_ | with_reducible refine y_cons ?_ | with_reducible refine y_iter ?_ | with_reducible refine y_itT ?_ | with_reducible refine y_itS ?_ | with_reducible refine y_gN ?_ | with_reducible refine y_gsN ?_ | with_reducible refine y_gsC ?_ | with_reducible refine y_newL ?_ | with_reducible refine y_addI ?_ | with_reducible refine y_subI ?_ | with_reducible refine y_leI ?_ | with_reducible refine y_geI ?_ | with_reducible refine y_ltI ?_ | with_reducible refine y_gtI ?_ | with_reducible refine y_eqI ?_ | with_reducible refine y_eqS ?_ | with_reducible refine y_lenT ?_ | with_reducible refine y_lenF ?_ | with_reducible refine y_int ?_ | with_reducible refine y_isN ?_ | with_reducible refine y_isI ?_ | with_reducible refine y_isS ?_ | with_reducible refine y_isT ?_ | with_reducible refine y_isR ?_ | with_reducible refine y_slT ?_ | with_reducible refine y_min ?_ | with_reducible refine y_max ?_ | with_reducible refine y_rng1 ?_ | with_reducible refine y_rng2 ?_ | with_reducible refine y_enum ?_ | with_reducible refine y_dict0 ?_ | with_reducible refine y_lenI ?_ | with_reducible refine y_atI ?_ | with_reducible refine y_callI ?_ | ((with_reducible apply y_var); exact rfl) | ((with_reducible apply y_aug); exact rfl) | ((with_reducible refine y_gT ?_ ?_); exact rfl) | ((with_reducible apply y_atT); exact rfl) | ((with_reducible refine y_ifT ?_ ?_); exact rfl) | ((with_reducible refine y_ifF ?_ ?_); exact rfl) | ((with_reducible refine And.intro ?_ ?_); first | exact Nat.le_of_ble_eq_true rfl | exact trivial | assumption)))
local macro_rules | `(tactic| walk_at "zg") => `(tactic| (repeat walk_at "zs"))
local macro_rules | `(tactic| walk_at "get") => `(tactic| (repeat first | assumption | ((with_reducible apply get_is); exact rfl) | with_reducible refine get_past ?_))
local macro_rules | `(tactic| walk_at "ext") => `(tactic| (repeat first | assumption | exact Ext.refl | with_reducible refine ext_past ?_))
/-! ### rules are plain data -/
structure Pl (k w : Nat) (d : D) : Prop where
  st : stiff d = true
  dp : dep d ≤ k
  pl : plain (toP d) = true
  le : wt (toP d) ≤ w
structure Pls (k w : Nat) (l : List D) : Prop where
  st : stiffs l = true
  dp : deps l ≤ k
  pl : plains (toPs l) = true
  le : wts (toPs l) ≤ w
theorem Pls.nil {k w : Nat} : Pls k w [] := ⟨rfl, Nat.zero_le _, rfl, Nat.zero_le _⟩
theorem Pls.cons {k w v : Nat} {d : D} {l : List D} (h : Pl k w d) (g : Pls k v l) : Pls k (w + 2 + v) (d :: l) := by
  refine ⟨?_, ?_, ?_, ?_⟩
  · show (stiff d && stiffs l) = true; rw [h.st, g.st]; rfl
  · show max (dep d) (deps l) ≤ k
    have := h.dp; have := g.dp; omega
  · show (plain (toP d) && plains (toPs l)) = true; rw [h.pl, g.pl]; rfl
  · show wt (toP d) + 2 + wts (toPs l) ≤ _
    have := h.le; have := g.le; omega
theorem Pls.tup {k w : Nat} {l : List D} (h : Pls k w l) : Pl (k + 1) (w + 3) (.tup l) := by
  refine ⟨?_, ?_, ?_, ?_⟩
  · unfold stiff; exact h.st
  · unfold dep; have := h.dp; omega
  · show plains (toPs l) = true; exact h.pl
  · show wts (toPs l) + 3 ≤ _; have := h.le; omega
theorem Pl.up {k w k' w' : Nat} {d : D} (h : Pl k w d) (hk : k ≤ k') (hw : w ≤ w') : Pl k' w' d := ⟨h.st, Nat.le_trans h.dp hk, h.pl, Nat.le_trans h.le hw⟩
theorem Pls.up {k w k' w' : Nat} {d : List D} (h : Pls k w d) (hk : k ≤ k') (hw : w ≤ w') : Pls k' w' d := ⟨h.st, Nat.le_trans h.dp hk, h.pl, Nat.le_trans h.le hw⟩
theorem pl_int {i : Int} (h0 : 0 ≤ i) (h1 : i < 100) : Pl 0 1921 (.int i) := ⟨rfl, Nat.le_refl _, by show (decide (0 ≤ i) && decide (i < 100)) = true; simp [h0, h1], Nat.le_refl _⟩
theorem pl_non : Pl 0 4 .non := ⟨rfl, Nat.le_refl _, rfl, Nat.le_refl _⟩
theorem pl_str {z : Str} {n : Nat} (h : z.cps.toList.all plC = true) (hl : z.length ≤ n) : Pl 0 (10 * n + 2) (.str z) := ⟨rfl, Nat.le_refl _, h, by show 10 * z.length + 2 ≤ _; omega⟩
theorem pl_among {d : D} {lo hi : Int} (h : among d lo hi = true) (h0 : 0 ≤ lo) (h1 : hi < 100) : Pl 0 1921 d ∧ ∃ i, d = .int i ∧ lo ≤ i ∧ i ≤ hi := by
  cases d with
  | int i =>
    simp only [among, Bool.and_eq_true, decide_eq_true_eq] at h
    exact ⟨pl_int (by omega) (by omega), i, rfl, h.1, h.2⟩
  | _ => simp [among] at h
theorem pl_word {z : Str} (h : z ∈ ([("ends" : Str), "near", "length", "changed", "all", "last"] : List Str)) : Pl 0 82 (.str z) := by
  have g : (([("ends" : Str), "near", "length", "changed", "all", "last"] : List Str).all fun z => z.cps.toList.all plC && decide (z.length ≤ 8)) = true := by decide +kernel
  have := List.all_eq_true.mp g z h
  rw [Bool.and_eq_true, decide_eq_true_eq] at this
  exact pl_str this.1 this.2
theorem pl_digits {b : Nat} {d : D} (hb : b ≤ 10) (h : areB b d = true) (h2 : le2 d = true) : Pl 0 22 d := by
  obtain ⟨z, rfl⟩ := areB_str h
  obtain ⟨l, rfl, hl⟩ := areB_ds h
  refine pl_str (n := 2) (List.all_eq_true.mpr fun c hc => ?_) (of_decide_eq_true h2)
  have h9 : ∀ d ∈ l, d < 10 := fun d hd => Nat.lt_of_lt_of_le (hl.2 d hd) hb
  have := dg_sign h9 c hc
  have h48 : 48 ≤ c := by
    rw [dg_cps, List.mem_map] at hc
    obtain ⟨d, hd, rfl⟩ := hc
    omega
  unfold plC
  simp only [Bool.and_eq_true, decide_eq_true_eq, bne_iff_ne]
  omega
theorem cond_pl {b : Nat} {c : D} (hb : b ≤ 10) (h : condB b c = true) : Pl 1 4000 c := by
  unfold condB at h
  split at h
  · rename_i k x
    split at h
    · rename_i e
      rw [Bool.and_eq_true] at h
      exact (Pls.tup (Pls.cons (pl_word (by rw [e]; decide +kernel)) (Pls.cons (pl_digits hb h.1 h.2) (Pls.nil (w := 0))))).up (by decide) (by decide)
    · split at h
      · rename_i e
        exact (Pls.tup (Pls.cons (pl_word (by rw [e]; decide +kernel)) (Pls.cons (pl_among h (by decide) (by decide)).1 (Pls.nil (w := 0))))).up (by decide) (by decide)
      · cases h
  · rename_i k x y
    simp only [Bool.and_eq_true, Bool.or_eq_true, decide_eq_true_eq] at h
    obtain ⟨hk, hx, hy⟩ := h
    obtain ⟨px, i, rfl, h1, h6⟩ := pl_among hx (by decide) (by decide)
    have py : Pl 0 1921 y := by
      rcases hy with hy | hy
      · cases y <;> first | exact pl_non.up (by decide) (by decide) | (simp [isNon] at hy)
      · exact (pl_among (lo := i) (hi := 6) hy (by omega) (by decide)).1
    refine (Pls.tup (Pls.cons (pl_word ?_) (Pls.cons px (Pls.cons py (Pls.nil (w := 0)))))).up (by decide) (by decide)
    rcases hk with rfl | rfl <;> decide +kernel
  · cases h
theorem keep_pl {k : D} (h : keepB k = true) : Pl 1 2100 k := by
  unfold keepB at h
  split at h
  · rename_i z
    exact (Pls.tup (Pls.cons (pl_word (by rw [of_decide_eq_true h]; decide +kernel)) (Pls.nil (w := 0)))).up (by decide) (by decide)
  · rename_i z x
    simp only [Bool.and_eq_true, Bool.or_eq_true, decide_eq_true_eq] at h
    obtain ⟨hk, hx⟩ := h
    refine (Pls.tup (Pls.cons (pl_word ?_) (Pls.cons (pl_among hx (by decide) (by decide)).1 (Pls.nil (w := 0))))).up (by decide) (by decide)
    rcases hk with rfl | rfl <;> decide +kernel
  · cases h
theorem conds_pl {b : Nat} (hb : b ≤ 10) : ∀ (cs : List D), cs.all (condB b) = true → Pls 1 (4002 * cs.length) cs
  | [], _ => Pls.nil
  | c :: cs, h => by
    rw [List.all_cons, Bool.and_eq_true] at h
    exact (Pls.cons (cond_pl hb h.1) (conds_pl hb cs h.2)).up (Nat.le_refl _) (by rw [List.length_cons]; omega)
theorem rule_pl {b : Nat} {d : D} (hb : b ≤ 10) (h : ruleB b d = true) : Pl 3 15000 d := by
  obtain ⟨cs, k, rfl, h3, hc, hk⟩ := rule_shape h
  exact (Pls.tup (Pls.cons (Pls.tup (conds_pl hb cs hc)) (Pls.cons ((keep_pl hk).up (by decide) (Nat.le_refl _)) (Pls.nil (w := 0))))).up (by decide) (by omega)
theorem rules_pl {b : Nat} (hb : b ≤ 10) : ∀ (rs : List D), rs.all (ruleB b) = true → Pls 3 (15002 * rs.length) rs
  | [], _ => Pls.nil
  | c :: cs, h => by
    rw [List.all_cons, Bool.and_eq_true] at h
    exact (Pls.cons (rule_pl hb h.1) (rules_pl hb cs h.2)).up (Nat.le_refl _) (by rw [List.length_cons]; omega)
mutual
theorem plain_fine : ∀ (p : PyData), plain p = true → fineP p = true
  | .none, _ => rfl
  | .bool _, _ => rfl
  | .int i, h => by
    obtain ⟨n, hn, rfl⟩ := small_int h
    show decide (((n : Nat) : Int).natAbs.log2 < 1920) = true
    rw [Int.natAbs_natCast]
    exact decide_eq_true (Nat.lt_of_lt_of_le (log2_nat (k := 7) (by decide) (Nat.lt_of_lt_of_le hn (by decide))) (by decide))
  | .str z, h => List.all_eq_true.mpr fun c hc => decide_eq_true (by
    have := List.all_eq_true.mp h c hc
    simp only [plC, Bool.and_eq_true, decide_eq_true_eq] at this
    omega)
  | .list l, h => plains_fine l h
  | .tuple l, h => plains_fine l h
theorem plains_fine : ∀ (l : List PyData), plains l = true → finePs l = true
  | [], _ => rfl
  | p :: l, h => by
    unfold plains at h
    rw [Bool.and_eq_true] at h
    unfold finePs
    rw [plain_fine p h.1, plains_fine l h.2]; rfl
end
/-! ### the things that are no rules -/
def oddL (n1 n2 : Nat) : List D := [.non, .int 5, .str "all", .tup [], .tup [.tup [], .tup [.str "all", .int 1]], .tup [.ref n1, .tup [.str "all"]], .tup [.tup [.tup [.str "near", .int 9]], .tup [.str "all"]], .ref n2]
def oddP : List PyData := [.none, .int 5, .str "all", .tuple [], .tuple [.tuple [], .tuple [.str "all", .int 1]], .tuple [.list [], .tuple [.str "all"]], .tuple [.tuple [.tuple [.str "near", .int 9]], .tuple [.str "all"]], .list [.tuple [], .tuple [.str "all"]]]
structure Od (n1 n2 : Nat) (ah : AH) : Prop where
  g1 : ah[n1]? = some (.lst [])
  g2 : ah[n2]? = some (.lst [.tup [], .tup [.str "all"]])
theorem Od.ext {n1 n2 : Nat} {ah ah' : AH} (h : Od n1 n2 ah) (e : Ext ah ah') : Od n1 n2 ah' := ⟨e _ _ h.g1, e _ _ h.g2⟩
theorem Od.fm {n1 n2 : Nat} {ah ah' : AH} (h : Od n1 n2 ah) (h1 : 4 ≤ n1) (h2 : 4 ≤ n2) (e : Fm ah ah') : Od n1 n2 ah' := ⟨e _ _ h1 h.g1, e _ _ h2 h.g2⟩
def El (b n1 n2 : Nat) (d : D) : Prop := ruleB b d = true ∨ d ∈ oddL n1 n2
theorem odd_plain : oddP.all plain = true := by decide +kernel
theorem odd_wt : (oddP.all fun p => decide (wt p ≤ 15000)) = true := by decide +kernel
theorem odd_seen {n1 n2 : Nat} {ah : AH} (o : Od n1 n2 ah) {d : D} (h : d ∈ oddL n1 n2) : ∃ p ∈ oddP, Seen 4 ah d p := by
  unfold oddL at h
  simp only [List.mem_cons, List.not_mem_nil, or_false] at h
  rcases h with rfl | rfl | rfl | rfl | rfl | rfl | rfl | rfl
  · exact ⟨.none, by unfold oddP; simp, Seen.stiff (d := .non) rfl (by decide)⟩
  · exact ⟨.int 5, by unfold oddP; simp, Seen.stiff (d := .int 5) rfl (by decide)⟩
  · exact ⟨.str "all", by unfold oddP; simp, Seen.stiff (d := .str "all") rfl (by decide)⟩
  · exact ⟨.tuple [], by unfold oddP; simp, Seen.stiff (d := .tup []) rfl (by decide)⟩
  · exact ⟨.tuple [.tuple [], .tuple [.str "all", .int 1]], by unfold oddP; simp, Seen.stiff (d := .tup [.tup [], .tup [.str "all", .int 1]]) rfl (by decide)⟩
  · exact ⟨.tuple [.list [], .tuple [.str "all"]], by unfold oddP; simp, (Seen.tup (SeenL.cons (k := 2) ((Seen.lst o.g1 (SeenL.nil (k := 0))).up (by decide)) (SeenL.cons (Seen.stiff (d := .tup [.str "all"]) rfl (by decide)) SeenL.nil))).up (by decide)⟩
  · exact ⟨.tuple [.tuple [.tuple [.str "near", .int 9]], .tuple [.str "all"]], by unfold oddP; simp, Seen.stiff (d := .tup [.tup [.tup [.str "near", .int 9]], .tup [.str "all"]]) rfl (by decide)⟩
  · exact ⟨.list [.tuple [], .tuple [.str "all"]], by unfold oddP; simp, (Seen.lst o.g2 (SeenL.stiff (k := 2) (l := [.tup [], .tup [.str "all"]]) rfl (by decide))).up (by decide)⟩
theorem odd_no {b n1 n2 : Nat} {d : D} (h : d ∈ oddL n1 n2) : ruleB b d = false := by
  unfold oddL at h
  simp only [List.mem_cons, List.not_mem_nil, or_false] at h
  rcases h with rfl | rfl | rfl | rfl | rfl | rfl | rfl | rfl
  · rfl
  · rfl
  · rfl
  · rfl
  · show (decide (0 ≤ 3) && (true && keepB (.tup [.str "all", .int 1]))) = false
    decide +kernel
  · rfl
  · show (decide (1 ≤ 3) && ((condB b (.tup [.str "near", .int 9]) && true) && keepB (.tup [.str "all"]))) = false
    have : condB b (.tup [.str "near", .int 9]) = false := by
      show (if ("near" : Str) = "ends" then (areB b (.int 9) && le2 (.int 9)) else if ("near" : Str) = "near" then among (.int 9) 0 6 else false) = false
      rw [if_neg (by decide +kernel), if_pos rfl]
      decide
    rw [this]; rfl
  · rfl
theorem rule_not_odd {b : Nat} {d : D} (hb : b ≤ 10) (h : ruleB b d = true) : toP d ∉ oddP := by
  obtain ⟨cs, k, rfl, h3, hc, hk⟩ := rule_shape h
  intro hm
  have e0 : toP (.tup [.tup cs, k]) = .tuple [.tuple (toPs cs), toP k] := rfl
  rw [e0] at hm
  unfold oddP at hm
  simp only [List.mem_cons, List.not_mem_nil, or_false, PyData.tuple.injEq, List.cons.injEq, reduceCtorEq, false_or, and_true, false_and, or_false, false_and] at hm
  rcases hm with ⟨e1, e2⟩ | ⟨e1, e2⟩
  · unfold keepB at hk
    split at hk
    · rename_i z
      simp [toP, toPs] at e2
    · rename_i z x
      simp only [toP, toPs, PyData.tuple.injEq, List.cons.injEq, PyData.str.injEq] at e2
      rw [e2.1] at hk
      revert hk
      rw [show (decide (("all" : Str) = "changed") || decide (("all" : Str) = "last")) = false from by decide +kernel]
      intro hk
      cases hk
    · cases hk
  · cases cs with
    | nil => simp [toPs] at e1
    | cons c cs =>
      rw [List.all_cons, Bool.and_eq_true] at hc
      simp only [toPs, List.cons.injEq] at e1
      have hc1 := hc.1
      have e3 := e1.1
      unfold condB at hc1
      split at hc1
      · rename_i z x
        simp only [toP, toPs, PyData.tuple.injEq, List.cons.injEq, PyData.str.injEq, and_true] at e3
        obtain ⟨rfl, e4⟩ := e3
        rw [if_neg (by decide +kernel), if_pos rfl] at hc1
        obtain ⟨_, i, rfl, l0, l6⟩ := pl_among hc1 (by decide) (by decide)
        simp only [toP, PyData.int.injEq] at e4
        omega
      · rename_i z x y
        simp [toP, toPs] at e3
      · cases hc1
/-- a thing of a row, as it is shown -/
structure Row (b : Nat) (ah : AH) (d : D) (p : PyData) : Prop where
  se : Seen 4 ah d p
  pl : plain p = true
  le : wt p ≤ 15000
  iff : p ∈ oddP ↔ ruleB b d = false
theorem El.row {b n1 n2 : Nat} {ah : AH} {d : D} (hb : b ≤ 10) (o : Od n1 n2 ah) (h : El b n1 n2 d) : ∃ p, Row b ah d p := by
  rcases h with h | h
  · have q := rule_pl hb h
    exact ⟨toP d, Seen.stiff q.st (Nat.le_trans q.dp (by decide)), q.pl, q.le, fun z => absurd z (rule_not_odd hb h), fun z => by rw [h] at z; cases z⟩
  · obtain ⟨p, hp, s⟩ := odd_seen o h
    exact ⟨p, s, List.all_eq_true.mp odd_plain p hp, of_decide_eq_true (List.all_eq_true.mp odd_wt p hp), fun _ => odd_no h, fun _ => hp⟩
/-- repr(d) in the texts of the odd ones -/
theorem Row.any {b : Nat} {ah : AH} {d : D} {p : PyData} (r : Row b ah d p) : ((oddP.map fun p => D.str p.shown).any fun y => eqF y (.str p.shown)) = !ruleB b d := by
  rw [Bool.eq_iff_iff, List.any_eq_true, Bool.not_eq_true', ← r.iff]
  constructor
  · rintro ⟨y, hy, e⟩
    obtain ⟨p', hp', rfl⟩ := List.mem_map.mp hy
    have e' : p'.shown = p.shown := by simpa [eqF] using e
    rw [← shown_inj (List.all_eq_true.mp odd_plain p' hp') r.pl e']
    exact hp'
  · intro hp
    exact ⟨_, List.mem_map.mpr ⟨p, hp, rfl⟩, by simp [eqF]⟩
theorem el_ok {b n1 n2 : Nat} {ah : AH} {d : D} (o : Od n1 n2 ah) (h : El b n1 n2 d) : okD ah d = true := by
  rcases h with h | h
  · have := okDs_rules (ah := ah) (b := b) (rs := [d]) (by rw [List.all_cons, h]; rfl)
    unfold okDs at this
    rw [Bool.and_eq_true] at this
    exact this.1
  · unfold oddL at h
    simp only [List.mem_cons, List.not_mem_nil, or_false] at h
    have t1 := ty_ref o.g1
    have t2 := ty_ref o.g2
    have sa : ("all" : Str).length < sizeLine := Nat.lt_of_le_of_lt (show ("all" : Str).length ≤ 3 by decide +kernel) (by decide)
    have sn : ("near" : Str).length < sizeLine := Nat.lt_of_le_of_lt (show ("near" : Str).length ≤ 4 by decide +kernel) (by decide)
    rcases h with rfl | rfl | rfl | rfl | rfl | rfl | rfl | rfl <;> simp [okD, okDs, t1, t2, sa, sn]
end Z
namespace Z
open PySem PySem.Spec PyProof.Rows L2
local macro_rules | `(tactic| walk_at "zs") => `(tactic| (first | with_reducible refine y_seq ?_ | with_reducible refine y_asg ?_ | with_reducible refine y_expr ?_ | with_reducible refine y_ret ?_ | with_reducible refine y_retN ?_ | with_reducible refine y_next ?_ | with_reducible refine y_if ?_ | with_reducible refine y_par ?_ | with_reducible refine y_par3 ?_ | with_reducible refine y_put ?_ | with_reducible refine y_setF ?_ | with_reducible refine y_raise ?_ | with_reducible refine y_for ?_ | with_reducible refine y_c ?_ | with_reducible refine y_bin ?_ | with_reducible refine y_sl ?_ | with_reducible refine y_noP ?_ | with_reducible refine y_part ?_ | with_reducible refine y_tup ?_ | with_reducible refine y_lst ?_ | with_reducible refine y_andV ?_ | with_reducible refine y_orV ?_ | with_reducible refine y_notV ?_ | with_reducible refine y_ifE ?_ | with_reducible refine y_neg ?_ | with_reducible refine y_chain ?_ | with_reducible refine y_cal ?_ | with_reducible refine y_met ?_ | with_reducible refine y_call ?_ | with_reducible refine y_meth ?_ | with_reducible refine y_cmeth ?_ | with_reducible refine y_fld ?_ | with_reducible refine y_lc ?_ | with_reducible refine y_tst ?_ | with_reducible refine y_not ?_ | with_reducible refine y_and ?_ | with_reducible refine y_or ?_ | with_reducible refine y_yes ?_ | with_reducible refine y_nil ?_ | with_reducible refine y_cons ?_ | with_reducible refine y_iter ?_ | with_reducible refine y_itT ?_ | with_reducible refine y_itS ?_ | with_reducible refine y_gN ?_ | with_reducible refine y_gsN ?_ | with_reducible refine y_gsC ?_ | with_reducible refine y_newL ?_ | with_reducible refine y_addI ?_ | with_reducible refine y_subI ?_ | with_reducible refine y_leI ?_ | with_reducible refine y_geI ?_ | with_reducible refine y_ltI ?_ | with_reducible refine y_gtI ?_ | with_reducible refine y_eqI ?_ | with_reducible refine y_eqS ?_ | with_reducible refine y_lenT ?_ | with_reducible refine y_lenF ?_ | with_reducible refine y_int ?_ | with_reducible refine y_isN ?_ | with_reducible refine y_isI ?_ | with_reducible refine y_isS ?_ | with_reducible refine y_isT ?_ | with_reducible refine y_isR ?_ | with_reducible refine y_slT ?_ | with_reducible refine y_min ?_ | with_reducible refine y_max ?_ | with_reducible refine y_rng1 ?_ | with_reducible refine y_rng2 ?_ | with_reducible refine y_enum ?_ | with_reducible refine y_dict0 ?_ | with_reducible refine y_lenI ?_ | with_reducible refine y_atI ?_ | with_reducible refine y_callI ?_ | ((with_reducible apply y_var); exact rfl) | ((with_reducible apply y_aug); exact rfl) | ((with_reducible refine y_gT ?_ ?_); exact rfl) | ((with_reducible apply y_atT); exact rfl) | ((with_reducible refine y_ifT ?_ ?_); exact rfl) | ((with_reducible refine y_ifF ?_ ?_); exact rfl) | ((with_reducible refine And.intro ?_ ?_); first | exact Nat.le_of_ble_eq_true rfl | exact trivial | assumption)))
local macro_rules | `(tactic| walk_at "zg") => `(tactic| (repeat walk_at "zs"))
local macro_rules | `(tactic| walk_at "get") => `(tactic| (repeat first | assumption | ((with_reducible apply get_is); exact rfl) | with_reducible refine get_past ?_))
local macro_rules | `(tactic| walk_at "ext") => `(tactic| (repeat first | assumption | exact Ext.refl | with_reducible refine ext_past ?_))
/-! ### a row of rules with things that are none -/
def sp__law_row : DSp := fun ds ah q _ => ∃ b ro n1 n2 a : Nat, ds = [.ref 3, .int b, .ref ro] ∧ 2 ≤ b ∧ b ≤ 10 ∧ 4 ≤ ro ∧ ah[ro]? = some (.lst (oddL n1 n2)) ∧ SI a ah ∧ a < 2 ^ 38 ∧
  ∀ (rs : List D) (a' : Nat) (ah' : AH), (∀ d ∈ rs, El b n1 n2 d) → rs.length ≤ 30 → a' ≤ a + 5000 → SI a' ah' → Fm ah ah' → q (.tup rs) ah'
def w__law_row : WS := (wSeq (wPar 3 4 (wCons (wCall sp__law_rules [] (wCons (wVar 0) (wCons (wVar 1) (wCons (wC (.int 6)) (wCons (wC (.int 7)) wNil))))) (wCons (wCall sp__law_draw [] (wCons (wVar 0) (wCons (wC (.int 6)) wNil))) wNil))) (wSeq (wIf (wTst (wBin (fEq false) (wVar 4) (wC (.int 0)))) (wAsg (wSl (wBin fAdd (wVar 3) (wCall sp__law_rules [] (wCons (wVar 0) (wCons (wVar 1) (wCons (wC (.int 6)) (wCons (wC (.int 7)) wNil)))))) wNoPart (wPart (wCall sp__law_draw [] (wCons (wVar 0) (wCons (wC (.int 10)) wNil))))) (gN 3)) wNext) (wSeq (wIf (wTst (wBin (fEq false) (wVar 4) (wC (.int 1)))) (wAsg (wBin fAdd (wVar 3) (wTup (wCons (wTup (wCons (wTup (wCons (wTup (wCons (wC (.str "near")) (wCons (wC (.int 2)) wNil))) wNil)) (wCons (wTup (wCons (wC (.str "all")) wNil)) wNil))) wNil))) (gN 3)) wNext) (wSeq (wFor (wRng1 (wCons (wBin fAt (wLst (wCons (wC (.int 0)) (wCons (wC (.int 1)) (wCons (wC (.int 2)) wNil)))) (wCall sp__law_draw [] (wCons (wVar 0) (wCons (wC (.int 3)) wNil)))) wNil)) (gN 5) (wSeq (wPar 6 7 (wCons (wCall sp__law_draw [] (wCons (wVar 0) (wCons (wBin fAdd (wCal gLen (wCons (wVar 3) wNil)) (wC (.int 1))) wNil))) (wCons (wCall sp__law_of [] (wCons (wVar 0) (wCons (wVar 2) wNil))) wNil))) (wAsg (wBin fAdd (wBin fAdd (wSl (wVar 3) wNoPart (wPart (wVar 6))) (wTup (wCons (wVar 7) wNil))) (wSl (wVar 3) (wPart (wBin fAdd (wVar 6) (wCall sp__law_draw [] (wCons (wVar 0) (wCons (wC (.int 2)) wNil))))) wNoPart)) (gN 3)))) (wRet (wVar 3))))))
def w_rw3 : WS := (wSeq (wFor (wRng1 (wCons (wBin fAt (wLst (wCons (wC (.int 0)) (wCons (wC (.int 1)) (wCons (wC (.int 2)) wNil)))) (wCall sp__law_draw [] (wCons (wVar 0) (wCons (wC (.int 3)) wNil)))) wNil)) (gN 5) (wSeq (wPar 6 7 (wCons (wCall sp__law_draw [] (wCons (wVar 0) (wCons (wBin fAdd (wCal gLen (wCons (wVar 3) wNil)) (wC (.int 1))) wNil))) (wCons (wCall sp__law_of [] (wCons (wVar 0) (wCons (wVar 2) wNil))) wNil))) (wAsg (wBin fAdd (wBin fAdd (wSl (wVar 3) wNoPart (wPart (wVar 6))) (wTup (wCons (wVar 7) wNil))) (wSl (wVar 3) (wPart (wBin fAdd (wVar 6) (wCall sp__law_draw [] (wCons (wVar 0) (wCons (wC (.int 2)) wNil))))) wNoPart)) (gN 3)))) (wRet (wVar 3)))
def w_rw2 : WS := (wSeq (wIf (wTst (wBin (fEq false) (wVar 4) (wC (.int 1)))) (wAsg (wBin fAdd (wVar 3) (wTup (wCons (wTup (wCons (wTup (wCons (wTup (wCons (wC (.str "near")) (wCons (wC (.int 2)) wNil))) wNil)) (wCons (wTup (wCons (wC (.str "all")) wNil)) wNil))) wNil))) (gN 3)) wNext) w_rw3)
def w_rw1 : WS := (wSeq (wIf (wTst (wBin (fEq false) (wVar 4) (wC (.int 0)))) (wAsg (wSl (wBin fAdd (wVar 3) (wCall sp__law_rules [] (wCons (wVar 0) (wCons (wVar 1) (wCons (wC (.int 6)) (wCons (wC (.int 7)) wNil)))))) wNoPart (wPart (wCall sp__law_draw [] (wCons (wVar 0) (wCons (wC (.int 10)) wNil))))) (gN 3)) wNext) w_rw2)
def w_rw0 : WS := (wSeq (wPar 3 4 (wCons (wCall sp__law_rules [] (wCons (wVar 0) (wCons (wVar 1) (wCons (wC (.int 6)) (wCons (wC (.int 7)) wNil))))) (wCons (wCall sp__law_draw [] (wCons (wVar 0) (wCons (wC (.int 6)) wNil))) wNil))) w_rw1)
theorem row_eq : w__law_row = w_rw0 := rfl
theorem cut_mem {l : List D} {lo hi : Option Int} {d : D} (h : d ∈ cutD l lo hi) : d ∈ l := List.mem_of_mem_drop (List.mem_of_mem_take h)
theorem cut_len {l : List D} {lo hi : Option Int} : (cutD l lo hi).length ≤ l.length := by
  unfold cutD
  rw [List.length_take, List.length_drop]
  omega
theorem cutD_take (l : List D) (k : Nat) : cutD l none (some (k : Int)) = l.take k := by
  unfold cutD HT.sIx
  simp only [List.drop_zero, Nat.sub_zero]
  rw [if_neg (by omega)]
  rw [List.take_eq_take_iff]
  omega
theorem cutD_drop (l : List D) (k : Nat) : cutD l (some (k : Int)) none = l.drop k := by
  unfold cutD HT.sIx
  simp only
  rw [if_neg (by omega)]
  by_cases h : k ≤ l.length
  · have e : min (k : Int).toNat l.length = k := by omega
    have e' : (min (k : Int) l.length).toNat = k := by omega
    first | rw [e] | rw [e']
    rw [List.take_of_length_le (by rw [List.length_drop]; exact Nat.le_refl _)]
  · have e : min (k : Int).toNat l.length = l.length := by omega
    have e' : (min (k : Int) l.length).toNat = l.length := by omega
    first | rw [e] | rw [e']
    rw [Nat.sub_self, List.take_zero, List.drop_eq_nil_of_le (by omega)]
def ER (b ro : Nat) (rs : List D) (o4 o5 o6 o7 : Option D) : En := [some (.ref 3), some (.int b), some (.ref ro), some (.tup rs), o4, o5, o6, o7]
section
variable {b ro n1 n2 a w : Nat} {rs : List D} {o4 o5 o6 o7 : Option D} {ah : AH} {dn : DEnds} {x : QXS}
theorem ok_el (o : OkR b rs) : ∀ d ∈ rs, El b n1 n2 d := fun d hd => .inl (List.all_eq_true.mp o.all d hd)
theorem rw1 (h2 : 2 ≤ b) (hb : b ≤ 10) (he : ∀ d ∈ rs, El b n1 n2 d) (hl : rs.length ≤ 8) (hs : SI a ah) (ha : a < 2 ^ 38 + 3000)
    (hk : ∀ (rs : List D) a' ah', (∀ d ∈ rs, El b n1 n2 d) → rs.length ≤ 16 → a' ≤ a + 2001 → SI a' ah' → Fm ah ah' → w_rw2 (ER b ro rs (some (.int (w : Nat))) o5 o6 o7) ah' dn x) :
    w_rw1 (ER b ro rs (some (.int (w : Nat))) o5 o6 o7) ah dn x := by
  unfold w_rw1 ER
  walk_at "zg"
  by_cases hw : w = 0
  · refine y_ifT (by rw [decide_eq_true (by omega)]; rfl) ?_
    walk_at "zg"
    refine rules_call (most := 6) (many := 7) h2 hb (by decide) (by decide) (by decide) hs (by omega) fun rs2 a1 ah1 o1 ha1 s1 f1 => ?_
    have l8 := o1.l8
    refine y_catT (by have : rs.length + rs2.length ≤ 16 := by omega
                      exact Nat.le_trans this (by decide)) ?_
    walk_at "zg"
    refine draw_call (many := 10) (by decide) (by decide) s1 (by omega) fun v ah2 hv s2 f2 => ?_
    walk_at "zg"
    refine hk _ _ _ (fun d hd => ?_) (Nat.le_trans cut_len (by rw [List.length_append]; omega)) (by omega) s2 (f1.trans f2)
    rcases List.mem_append.mp (cut_mem hd) with h | h
    · exact he d h
    · exact ok_el o1 d h
  · refine y_ifF (by rw [decide_eq_false (by omega)]; rfl) ?_
    walk_at "zg"
    exact hk _ _ _ he (by omega) (by omega) hs Fm.refl
theorem near2 (b : Nat) : ruleB b (.tup [.tup [.tup [.str "near", .int 2]], .tup [.str "all"]]) = true := by
  show (decide (1 ≤ 3) && ((condB b (.tup [.str "near", .int 2]) && true) && keepB (.tup [.str "all"]))) = true
  have : condB b (.tup [.str "near", .int 2]) = true := by
    show (if ("near" : Str) = "ends" then (areB b (.int 2) && le2 (.int 2)) else if ("near" : Str) = "near" then among (.int 2) 0 6 else false) = true
    rw [if_neg (by decide +kernel), if_pos rfl]
    decide
  rw [this]; decide +kernel
theorem rw2 (he : ∀ d ∈ rs, El b n1 n2 d) (hl : rs.length ≤ 16)
    (hk : ∀ (rs : List D), (∀ d ∈ rs, El b n1 n2 d) → rs.length ≤ 17 → w_rw3 (ER b ro rs (some (.int (w : Nat))) o5 o6 o7) ah dn x) :
    w_rw2 (ER b ro rs (some (.int (w : Nat))) o5 o6 o7) ah dn x := by
  unfold w_rw2 ER
  walk_at "zg"
  by_cases hw : w = 1
  · refine y_ifT (by rw [decide_eq_true (by omega)]; rfl) ?_
    walk_at "zg"
    refine y_catT (by have : rs.length + 1 ≤ 17 := by omega
                      exact Nat.le_trans this (by decide)) ?_
    walk_at "zg"
    refine hk _ (fun d hd => ?_) (by rw [List.length_append]; show rs.length + 1 ≤ 17; omega)
    rcases List.mem_append.mp hd with h | h
    · exact he d h
    · rw [List.mem_singleton] at h
      subst h
      exact .inl (near2 b)
  · refine y_ifF (by rw [decide_eq_false (by omega)]; rfl) ?_
    walk_at "zg"
    exact hk _ he (by omega)
theorem few3 {r : Nat} (h : r < 3) : atI [D.int 0, .int 1, .int 2] (r : Int) = some (.int (r : Nat)) := by
  have : r = 0 ∨ r = 1 ∨ r = 2 := by omega
  rcases this with rfl | rfl | rfl <;> rfl
theorem rw3 (h4 : 4 ≤ ro) (hr : ah[ro]? = some (.lst (oddL n1 n2))) (he : ∀ d ∈ rs, El b n1 n2 d) (hl : rs.length ≤ 17) (hs : SI a ah) (ha : a < 2 ^ 40)
    (hk : ∀ (rs : List D) a' ah', (∀ d ∈ rs, El b n1 n2 d) → rs.length ≤ 20 → a' ≤ a + 10 → SI a' ah' → Fm ah ah' → dn.rt (.tup rs) ah') :
    w_rw3 (ER b ro rs o4 o5 o6 o7) ah dn x := by
  unfold w_rw3 ER
  have l0 := hs.len
  walk_at "zg"
  refine draw_call (many := 3) (by decide) (by decide) (hs.ext (Ext.push _)) (by omega) fun r ah1 h3 s1 f1 => ?_
  refine y_atL (f1 _ _ l0 (get_push _ _)) (few3 h3) ?_
  walk_at "zg"
  refine ⟨by omega, by omega, ?_⟩
  have fr : Fm ah ah1 := ((Ext.push _).fm).trans f1
  refine forGo_rule (fun l env ah' => ∃ rs a' o5 o6 o7, env = ER b ro rs o4 o5 o6 o7 ∧ (∀ d ∈ rs, El b n1 n2 d) ∧ rs.length + l.length ≤ 19 ∧ a' + 3 * l.length ≤ a + 7 ∧ SI a' ah' ∧ Fm ah ah') ?_ ?_ ?_ _ _ _ ⟨rs, a + 1, o5, o6, o7, rfl, he, ?_, ?_, s1, fr⟩
  · rintro l env ah' _
    trivial
  · rintro env ah' ⟨rs, a', o5, o6, o7, rfl, he, hl, ha', s', f'⟩
    unfold ER
    walk_at "zg"
    exact hk _ _ _ he (by simp at hl; omega) (by simp at ha'; omega) s' f'
  · rintro d l env ah2 K ⟨rs, a', o5, o6, o7, rfl, he, hl, ha', s2, f2⟩ hK
    rw [List.length_cons] at hl ha'
    unfold ER
    walk_at "zg"
    refine draw_call (many := rs.length + 1) (by omega) (by omega) s2 (by omega) fun at_ ah3 h3 s3 f3 => ?_
    walk_at "zg"
    refine lawof_call h4 (f3 _ _ h4 (f2 _ _ h4 hr)) (by show 0 < 8; decide) (by show 8 < 1000; decide) s3 (by omega) fun th ah4 hth s4 f4 => ?_
    walk_at "zg"
    refine y_catT (by have : (cutD rs none (some (at_ : Int))).length + 1 ≤ 30 := by
                        have := cut_len (l := rs) (lo := none) (hi := some (at_ : Int)); omega
                      exact Nat.le_trans this (by decide)) ?_
    walk_at "zg"
    refine draw_call (many := 2) (by decide) (by decide) s4 (by omega) fun v ah5 hv s5 f5 => ?_
    walk_at "zg"
    have c1 := cut_len (l := rs) (lo := none) (hi := some (at_ : Int))
    have c2 := cut_len (l := rs) (lo := some ((at_ : Int) + (v : Nat))) (hi := none)
    have c3 : (cutD rs none (some (at_ : Int)) ++ [th]).length + (cutD rs (some ((at_ : Int) + (v : Nat))) none).length ≤ rs.length + 1 := by
      rw [List.length_append, cutD_take, show ((at_ : Int) + (v : Nat)) = ((at_ + v : Nat) : Int) by omega, cutD_drop, List.length_take, List.length_drop, List.length_singleton]
      omega
    refine y_catT (Nat.le_trans c3 (by have : rs.length + 1 ≤ 30 := by omega
                                       exact Nat.le_trans this (by decide))) ?_
    walk_at "zg"
    refine hK _ _ ⟨_, a' + 3, _, _, _, rfl, fun d hd => ?_, by rw [List.length_append]; omega, by omega, s5, ((f2.trans f3).trans f4).trans f5⟩
    rcases List.mem_append.mp hd with h | h
    · rcases List.mem_append.mp h with h | h
      · exact he d (cut_mem h)
      · rw [List.mem_singleton] at h
        subst h
        exact .inr hth
    · exact he d (cut_mem h)
  · rw [rangeD_len]; omega
  · rw [rangeD_len]; omega
end
theorem wp__law_row (ds : List D) (ah : AH) (q : QE) (x : QX) (h : sp__law_row ds ah q x) : w__law_row (startD 8 ds) ah { nx := fun _ ah' => q .non ah', rt := q } (fun e _ ah' => x e ah') := by
  obtain ⟨b, ro, n1, n2, a, rfl, h2, hb, h4, hr, hs, ha, hq⟩ := h
  rw [row_eq]
  show w_rw0 [some (.ref 3), some (.int b), some (.ref ro), none, none, none, none, none] ah _ _
  unfold w_rw0
  walk_at "zg"
  refine rules_call (most := 6) (many := 7) h2 hb (by decide) (by decide) (by decide) hs (by omega) fun rs a1 ah1 o1 ha1 s1 f1 => ?_
  walk_at "zg"
  refine draw_call (many := 6) (by decide) (by decide) s1 (by omega) fun w ah2 hw s2 f2 => ?_
  walk_at "zg"
  refine rw1 (n1 := n1) (n2 := n2) h2 hb (ok_el o1) o1.l8 s2 (by omega) fun rs a2 ah3 he hl ha2 s3 f3 => ?_
  refine rw2 he hl fun rs he hl => ?_
  have f4 := (f1.trans f2).trans f3
  refine rw3 h4 (f4 _ _ h4 hr) he hl s3 (by omega) fun rs a3 ah4 he hl ha3 s4 f5 => ?_
  exact hq _ _ _ he (by omega) (by omega) s4 (f4.trans f5)
theorem row_call {b ro n1 n2 a : Nat} {ah : AH} {q : QE} {x : QX} (h2 : 2 ≤ b) (hb : b ≤ 10) (h4 : 4 ≤ ro) (hr : ah[ro]? = some (.lst (oddL n1 n2))) (hs : SI a ah) (ha : a < 2 ^ 38)
    (hq : ∀ (rs : List D) (a' : Nat) (ah' : AH), (∀ d ∈ rs, El b n1 n2 d) → rs.length ≤ 30 → a' ≤ a + 5000 → SI a' ah' → Fm ah ah' → q (.tup rs) ah') : sp__law_row [.ref 3, .int (b : Nat), .ref ro] ah q x := ⟨b, ro, n1, n2, a, rfl, h2, hb, h4, hr, hs, ha, hq⟩
end Z
namespace Z
open PySem PySem.Spec PyProof.Rows L2
local macro_rules | `(tactic| walk_at "zs") => `(tactic| (first | with_reducible refine y_seq ?_ | with_reducible refine y_asg ?_ | with_reducible refine y_expr ?_ | with_reducible refine y_ret ?_ | with_reducible refine y_retN ?_ | with_reducible refine y_next ?_ | with_reducible refine y_if ?_ | with_reducible refine y_par ?_ | with_reducible refine y_par3 ?_ | with_reducible refine y_put ?_ | with_reducible refine y_setF ?_ | with_reducible refine y_raise ?_ | with_reducible refine y_for ?_ | with_reducible refine y_c ?_ | with_reducible refine y_bin ?_ | with_reducible refine y_sl ?_ | with_reducible refine y_noP ?_ | with_reducible refine y_part ?_ | with_reducible refine y_tup ?_ | with_reducible refine y_lst ?_ | with_reducible refine y_andV ?_ | with_reducible refine y_orV ?_ | with_reducible refine y_notV ?_ | with_reducible refine y_ifE ?_ | with_reducible refine y_neg ?_ | with_reducible refine y_chain ?_ | with_reducible refine y_cal ?_ | with_reducible refine y_met ?_ | with_reducible refine y_call ?_ | with_reducible refine y_meth ?_ | with_reducible refine y_cmeth ?_ | with_reducible refine y_fld ?_ | with_reducible refine y_lc ?_ | with_reducible refine y_tst ?_ | with_reducible refine y_not ?_ | with_reducible refine y_and ?_ | with_reducible refine y_or ?_ | with_reducible refine y_yes ?_ | with_reducible refine y_nil ?_ | with_reducible refine y_cons ?_ | with_reducible refine y_iter ?_ | with_reducible refine y_itT ?_ | with_reducible refine y_itS ?_ | with_reducible refine y_gN ?_ | with_reducible refine y_gsN ?_ | with_reducible refine y_gsC ?_ | with_reducible refine y_newL ?_ | with_reducible refine y_addI ?_ | with_reducible refine y_subI ?_ | with_reducible refine y_leI ?_ | with_reducible refine y_geI ?_ | with_reducible refine y_ltI ?_ | with_reducible refine y_gtI ?_ | with_reducible refine y_eqI ?_ | with_reducible refine y_eqS ?_ | with_reducible refine y_lenT ?_ | with_reducible refine y_lenF ?_ | with_reducible refine y_int ?_ | with_reducible refine y_isN ?_ | with_reducible refine y_isI ?_ | with_reducible refine y_isS ?_ | with_reducible refine y_isT ?_ | with_reducible refine y_isR ?_ | with_reducible refine y_slT ?_ | with_reducible refine y_min ?_ | with_reducible refine y_max ?_ | with_reducible refine y_rng1 ?_ | with_reducible refine y_rng2 ?_ | with_reducible refine y_enum ?_ | with_reducible refine y_dict0 ?_ | with_reducible refine y_lenI ?_ | with_reducible refine y_atI ?_ | with_reducible refine y_callI ?_ | ((with_reducible apply y_var); exact rfl) | ((with_reducible apply y_aug); exact rfl) | ((with_reducible refine y_gT ?_ ?_); exact rfl) | ((with_reducible apply y_atT); exact rfl) | ((with_reducible refine y_ifT ?_ ?_); exact rfl) | ((with_reducible refine y_ifF ?_ ?_); exact rfl) | ((with_reducible refine And.intro ?_ ?_); first | exact Nat.le_of_ble_eq_true rfl | exact trivial | assumption)))
local macro_rules | `(tactic| walk_at "zg") => `(tactic| (repeat walk_at "zs"))
local macro_rules | `(tactic| walk_at "get") => `(tactic| (repeat first | assumption | ((with_reducible apply get_is); exact rfl) | with_reducible refine get_past ?_))
local macro_rules | `(tactic| walk_at "ext") => `(tactic| (repeat first | assumption | exact Ext.refl | with_reducible refine ext_past ?_))
/-! ### what is due -/
def dueL (b : Nat) (rs : List D) : List D := if 1 ≤ rs.length ∧ rs.length ≤ 8 then (match rs.findIdx? fun r => !ruleB b r with
  | some i => [.int (i : Nat)]
  | none => if (lastC rs).isEmpty = true then [] else [.int ((rs.length : Nat) - 1)]) else [.non]
theorem style_due {b : Nat} {rs : List D} (h2 : 2 ≤ b) (hb : b ≤ 10) : styleErr (.int b) rs = (match dueL b rs with | v :: _ => some ("BadRule", [("place", v)]) | [] => none) := by
  unfold styleErr dueL
  have ha : among (.int b) 2 10 = true := by simp [among]; omega
  rw [if_pos ha]
  split
  · simp only [Int.toNat_natCast]
    cases hf : rs.findIdx? fun r => !ruleB b r with
    | some i => rfl
    | none =>
      dsimp only
      split <;> rfl
  · rfl
/-! lists of plain things, empty or not -/
def atom : D → Bool
  | .non => true
  | .int _ => true
  | _ => false
theorem atoms_data (f : Nat) (ah : AH) : ∀ {l : List D}, l.all atom = true → ∃ ps, pds (pd f ah) l = some ps ∧ PyData.canLayAll0 ps = true ∧ PyData.depthAll ps ≤ 0 ∧ ps.length = l.length
  | [], _ => ⟨[], rfl, rfl, by decide, rfl⟩
  | d :: l, h => by
    rw [List.all_cons, Bool.and_eq_true] at h
    obtain ⟨ps, g1, g2, g3, g4⟩ := atoms_data f ah h.2
    obtain ⟨p, e1, e2, e3⟩ : ∃ p, pd f ah d = some p ∧ PyData.canLay0 p = true ∧ p.depth ≤ 0 := by
      cases d with
      | non => exact ⟨.none, by cases f <;> rfl, rfl, by decide⟩
      | int i => exact ⟨.int i, by cases f <;> rfl, rfl, by simp [PyData.depth]⟩
      | _ => simp [atom] at h
    refine ⟨p :: ps, by simp only [pds, e1, g1], ?_, ?_, by simp [g4]⟩
    · show (PyData.canLay0 p && PyData.canLayAll0 ps) = true
      rw [e2, g2]; rfl
    · show max p.depth (PyData.depthAll ps) ≤ 0
      omega
theorem eq_nil {neg : Bool} {n m : Nat} {l : List D} {ah : AH} {q : QE} (ha : l.all atom = true) (hn : ah[n]? = some (.lst l)) (hm : ah[m]? = some (.lst [])) (hq : q (.bl (neg != l.isEmpty)) ah) : fEq neg (.ref n) (.ref m) ah q := by
  obtain ⟨ps, g1, g2, g3, g4⟩ := atoms_data 19 ah ha
  refine ⟨.list ps, .list [], ?_, ?_, ?_, by decide, ?_⟩
  · show (match ah[n]? with | some (.lst xs) => (pds (pd 19 ah) xs).map PyData.list | _ => none) = _
    rw [hn]
    show (pds (pd 19 ah) l).map PyData.list = _
    rw [g1]; rfl
  · show (match ah[m]? with | some (.lst xs) => (pds (pd 19 ah) xs).map PyData.list | _ => none) = _
    rw [hm]; rfl
  · unfold SeqAt.shaped
    rw [Bool.and_eq_true]
    refine ⟨g2, decide_eq_true ?_⟩
    show PyData.depthAll ps + 1 ≤ 64
    omega
  · have e : PyData.eqv (.list ps) (.list []) = l.isEmpty := by
      cases ps with
      | nil => cases l with
        | nil => rfl
        | cons _ _ => cases g4
      | cons _ _ => cases l with
        | nil => cases g4
        | cons _ _ => rfl
    rw [e]
    exact hq
/-- cs == () -/
theorem eq_empty {b : Nat} {cs : List D} {ah : AH} {q : QE} (hb : b ≤ 10) (h : cs.all (condB b) = true) (hq : q (.bl cs.isEmpty) ah) : fEq false (.tup cs) (.tup []) ah q := by
  obtain ⟨ps, g1, g2, g3, g4⟩ := conds_data hb 18 ah h
  refine ⟨.tuple ps, .tuple [], ?_, rfl, ?_, by decide, ?_⟩
  · show (pds (pd 19 ah) cs).map PyData.tuple = _
    rw [g1]; rfl
  · unfold SeqAt.shaped
    rw [Bool.and_eq_true]
    refine ⟨g2, decide_eq_true ?_⟩
    show PyData.depthAll ps + 1 ≤ 64
    omega
  · have e : PyData.eqv (.tuple ps) (.tuple []) = cs.isEmpty := by
      cases ps with
      | nil => cases cs with
        | nil => rfl
        | cons _ _ => cases g4
      | cons _ _ => cases cs with
        | nil => cases g4
        | cons _ _ => rfl
    rw [e, Bool.false_bne]
    exact hq
/-- the numbers of the things that are no rules -/
def badIx (b : Nat) : Nat → List D → List D
  | _, [] => []
  | k, r :: rs => if ruleB b r = true then badIx b (k + 1) rs else .int (k : Nat) :: badIx b (k + 1) rs
theorem badIx_atom (b : Nat) : ∀ (rs : List D) (k : Nat), (badIx b k rs).all atom = true
  | [], _ => rfl
  | r :: rs, k => by
    unfold badIx
    split
    · exact badIx_atom b rs _
    · rw [List.all_cons, badIx_atom b rs]; rfl
theorem badIx_len (b : Nat) : ∀ (rs : List D) (k : Nat), (badIx b k rs).length ≤ rs.length
  | [], _ => Nat.le_refl _
  | r :: rs, k => by
    unfold badIx
    have := badIx_len b rs (k + 1)
    split
    · rw [List.length_cons]; omega
    · rw [List.length_cons, List.length_cons]; omega
theorem badIx_find (b : Nat) : ∀ (rs : List D) (k : Nat), (badIx b k rs).take 1 = (match rs.findIdx? fun r => !ruleB b r with | some i => [.int ((k + i : Nat) : Int)] | none => [])
  | [], _ => rfl
  | r :: rs, k => by
    unfold badIx
    rw [List.findIdx?_cons]
    cases h : ruleB b r with
    | true =>
      rw [if_pos rfl, badIx_find b rs (k + 1)]
      simp only [Bool.not_true, Bool.false_eq_true, if_false]
      cases rs.findIdx? fun r => !ruleB b r with
      | none => rfl
      | some i => simp only [Option.map_some]; rw [show k + 1 + i = k + (i + 1) by omega]
    | false =>
      rw [if_neg (by decide)]
      simp
theorem badIx_none (b : Nat) (rs : List D) (k : Nat) : (badIx b k rs).isEmpty = (rs.findIdx? fun r => !ruleB b r).isNone := by
  have h := badIx_find b rs k
  cases e : rs.findIdx? fun r => !ruleB b r with
  | none =>
    rw [e] at h
    cases g : badIx b k rs with
    | nil => rfl
    | cons d l => rw [g] at h; simp at h
  | some i =>
    rw [e] at h
    cases g : badIx b k rs with
    | nil => rw [g] at h; simp at h
    | cons d l => rfl
theorem y_inL {neg : Bool} {n : Nat} {l : List D} {z : Str} {c : Bool} {ah : AH} {q : QE} (hn : ah[n]? = some (.lst l)) (hf : l.all flatD = true) (e : (l.any fun y => eqF y (.str z)) = c) (h : q (.bl (neg != c)) ah) : fIn neg (.str z) (.ref n) ah q := by
  subst e
  simp only [fIn, hn]
  exact ⟨rfl, hf, h⟩
def oddT : List D := oddP.map fun p => D.str p.shown
theorem oddT_flat : oddT.all flatD = true := by
  unfold oddT
  rw [List.all_map]
  exact List.all_eq_true.mpr fun _ _ => rfl
def sp__law_due : DSp := fun ds ah q _ => ∃ (b n n1 n2 : Nat) (rs : List D), ds = [.tup rs, .ref n] ∧ 2 ≤ b ∧ b ≤ 10 ∧ ah[n]? = some (.lst oddT) ∧ Od n1 n2 ah ∧ (∀ d ∈ rs, El b n1 n2 d) ∧ rs.length ≤ 30 ∧
  ∀ m ah', Ext ah ah' → ah.length ≤ m → ah'[m]? = some (.lst (dueL b rs)) → q (.ref m) ah'
def w__law_due : WS := (wSeq (wIf (wNot (wTst (wChain fLe fLe (wC (.int 1)) (wCal gLen (wCons (wVar 0) wNil)) (wC (.int 8))))) (wRet (wLst (wCons (wC .non) wNil))) wNext) (wSeq (wAsg (wLc [3] (wRng1 (wCons (wCal gLen (wCons (wVar 0) wNil)) wNil)) (gN 3) (wTst (wBin (fIn false) (wCal gRepr (wCons (wBin fAt (wVar 0) (wVar 3)) wNil)) (wVar 1))) (wVar 3)) (gN 2)) (wSeq (wIf (wTst (wBin (fEq true) (wVar 2) (wLst wNil))) (wRet (wSl (wVar 2) wNoPart (wPart (wC (.int 1))))) wNext) (wRet (wIfE (wTst (wBin (fEq false) (wBin fAt (wBin fAt (wVar 0) (wNeg (wC (.int 1)))) (wC (.int 0))) (wTup wNil))) (wLst wNil) (wLst (wCons (wBin fSub (wCal gLen (wCons (wVar 0) wNil)) (wC (.int 1))) wNil)))))))
def w_du2 : WS := (wSeq (wIf (wTst (wBin (fEq true) (wVar 2) (wLst wNil))) (wRet (wSl (wVar 2) wNoPart (wPart (wC (.int 1))))) wNext) (wRet (wIfE (wTst (wBin (fEq false) (wBin fAt (wBin fAt (wVar 0) (wNeg (wC (.int 1)))) (wC (.int 0))) (wTup wNil))) (wLst wNil) (wLst (wCons (wBin fSub (wCal gLen (wCons (wVar 0) wNil)) (wC (.int 1))) wNil)))))
def w_du1 : WS := (wSeq (wAsg (wLc [3] (wRng1 (wCons (wCal gLen (wCons (wVar 0) wNil)) wNil)) (gN 3) (wTst (wBin (fIn false) (wCal gRepr (wCons (wBin fAt (wVar 0) (wVar 3)) wNil)) (wVar 1))) (wVar 3)) (gN 2)) w_du2)
def w_du0 : WS := (wSeq (wIf (wNot (wTst (wChain fLe fLe (wC (.int 1)) (wCal gLen (wCons (wVar 0) wNil)) (wC (.int 8))))) (wRet (wLst (wCons (wC .non) wNil))) wNext) w_du1)
theorem due_eq : w__law_due = w_du0 := rfl
theorem rangeD_cons (k : Int) (n : Nat) : rangeD k (n + 1) = .int k :: rangeD (k + 1) n := by
  unfold rangeD
  rw [List.range_succ_eq_map, List.map_cons, List.map_map]
  congr 1
  · simp
  · apply List.map_congr_left
    intro i _
    simp only [Function.comp]
    congr 1
    omega
theorem du1 {b n n1 n2 : Nat} {rs : List D} {o2 o3 : Option D} {ah : AH} {dn : DEnds} {x : QXS} (hb : b ≤ 10) (hn : ah[n]? = some (.lst oddT)) (od : Od n1 n2 ah) (he : ∀ d ∈ rs, El b n1 n2 d) (hl : rs.length ≤ 30)
    (hk : ∀ m ah' o3, Ext ah ah' → ah.length ≤ m → ah'[m]? = some (.lst (badIx b 0 rs)) → w_du2 [some (.tup rs), some (.ref n), some (.ref m), o3] ah' dn x) :
    w_du1 [some (.tup rs), some (.ref n), o2, o3] ah dn x := by
  unfold w_du1
  walk_at "zg"
  refine ⟨by omega, by omega, ?_⟩
  refine lcGo_rule (fun l acc ah' => ∃ dn rest, rs = dn ++ rest ∧ l = rangeD (dn.length : Nat) rest.length ∧ acc ++ badIx b dn.length rest = badIx b 0 rs ∧ acc.length ≤ dn.length ∧ Ext ah ah') ?_ ?_ ?_ _ _ _ ⟨[], rs, rfl, ?_, rfl, Nat.le_refl _, Ext.refl⟩
  · rintro l acc ah' _
    trivial
  · rintro acc ah' ⟨dn, rest, e1, e2, e3, e4, x'⟩
    have hr : rest = [] := by
      cases rest with
      | nil => rfl
      | cons r rest => rw [List.length_cons, rangeD_cons] at e2; cases e2
    subst hr
    rw [show badIx b dn.length [] = [] from rfl, List.append_nil] at e3
    subst e3
    walk_at "zg"
    exact hk _ _ _ (x'.trans (Ext.push _)) x'.len (get_push _ _)
  · rintro d l acc ah' K ⟨dn, rest, e1, e2, e3, e4, x'⟩ hK
    cases rest with
    | nil => cases e2
    | cons r rest =>
      rw [List.length_cons, rangeD_cons] at e2
      injection e2 with e5 e6
      subst e5 e6
      have hd : dn.length < rs.length := by rw [e1, List.length_append, List.length_cons]; omega
      refine ⟨Nat.lt_of_le_of_lt (show acc.length ≤ 30 by omega) (by decide), ?_⟩
      walk_at "zg"
      have hat : atI rs ((dn.length : Nat) : Int) = some r := by
        rw [atI_nat, e1, List.getElem?_append_right (Nat.le_refl _), Nat.sub_self]; rfl
      refine y_atT hat ?_
      walk_at "zg"
      obtain ⟨p, rp⟩ := (he r (by rw [e1]; simp)).row hb (od.ext x')
      refine repr_seen rp.se (by decide) (plain_fine p rp.pl) (Nat.le_trans rp.le (by decide)) ?_
      walk_at "zg"
      refine y_inL (x' _ _ hn) oddT_flat rp.any ?_
      walk_at "zg"
      rw [Bool.false_bne]
      have e7 : rs = (dn ++ [r]) ++ rest := by rw [e1]; simp
      have e8 : ((dn ++ [r]).length : Int) = (dn.length : Nat) + 1 := by rw [List.length_append]; rfl
      have e8n : (dn ++ [r]).length = dn.length + 1 := by rw [List.length_append]; rfl
      cases h : ruleB b r with
      | true =>
        refine y_ifF rfl ?_
        refine hK _ _ ⟨dn ++ [r], rest, e7, by rw [e8], ?_, by omega, x'⟩
        rw [e8n, ← e3]
        conv => rhs; unfold badIx
        rw [if_pos h]
      | false =>
        refine y_ifT rfl ?_
        walk_at "zg"
        refine hK _ _ ⟨dn ++ [r], rest, e7, by rw [e8], ?_, by rw [List.length_append, e8n]; simp; omega, x'⟩
        rw [e8n, ← e3]
        conv => rhs; unfold badIx
        rw [if_neg (by rw [h]; decide), List.append_assoc]; rfl
  · rfl
theorem wp__law_due (ds : List D) (ah : AH) (q : QE) (x : QX) (h : sp__law_due ds ah q x) : w__law_due (startD 4 ds) ah { nx := fun _ ah' => q .non ah', rt := q } (fun e _ ah' => x e ah') := by
  obtain ⟨b, n, n1, n2, rs, rfl, h2, hb, hn, od, he, hl, hq⟩ := h
  rw [due_eq]
  show w_du0 [some (.tup rs), some (.ref n), none, none] ah _ _
  unfold w_du0
  walk_at "zg"
  have none_ : ¬ (1 ≤ rs.length ∧ rs.length ≤ 8) → dueL b rs = [.non] := fun h => by unfold dueL; rw [if_neg h]
  by_cases h1 : 1 ≤ rs.length
  · rw [decide_eq_true (by omega : (1 : Int) ≤ rs.length)]
    dsimp only
    walk_at "zg"
    by_cases h8 : rs.length ≤ 8
    · refine y_ifF (by rw [decide_eq_true (by omega : (rs.length : Int) ≤ 8)]; rfl) ?_
      walk_at "zg"
      refine du1 hb hn od he hl fun m ah1 o3 x1 hm g1 => ?_
      unfold w_du2
      walk_at "zg"
      refine eq_nil (badIx_atom b rs 0) (get_past g1) (get_push _ _) ?_
      walk_at "zg"
      rw [badIx_none]
      have fd := badIx_find b rs 0
      cases hf : rs.findIdx? fun r => !ruleB b r with
      | some i =>
        rw [hf] at fd
        refine y_ifT rfl ?_
        walk_at "zg"
        refine y_slL (get_past g1) ?_
        rw [show cutD (badIx b 0 rs) none (some 1) = (badIx b 0 rs).take 1 from cutD_take _ 1, fd]
        dsimp only
        rw [Nat.zero_add]
        walk_at "zg"
        refine hq _ _ ((x1.trans (Ext.push _)).trans (Ext.push _)) (Nat.le_trans (x1.len) (by simp)) ?_
        rw [get_push]
        unfold dueL
        rw [if_pos ⟨h1, h8⟩, hf]
      | none =>
        refine y_ifF rfl ?_
        have all_ : ∀ r ∈ rs, ruleB b r = true := fun r hr => by
          have := List.findIdx?_eq_none_iff.mp hf r hr
          simpa using this
        have hne : rs ≠ [] := fun z => by subst z; simp at h1
        obtain ⟨r, hr⟩ : ∃ r, rs.getLast? = some r := ⟨rs.getLast hne, List.getLast?_eq_some_getLast hne⟩
        obtain ⟨cs, k, rfl, hc⟩ := ruleB_tup (all_ r (List.mem_of_getLast? hr))
        have hlc : lastC rs = cs := by unfold lastC; rw [hr]
        walk_at "zg"
        refine y_atT (d := .tup [.tup cs, k]) (by rw [at_last hne]; exact hr) ?_
        walk_at "zg"
        refine eq_empty hb hc ?_
        walk_at "zg"
        have hd : dueL b rs = if cs.isEmpty = true then [] else [.int ((rs.length : Nat) - 1)] := by
          unfold dueL
          rw [if_pos ⟨h1, h8⟩, hf, hlc]
        cases hcs : cs.isEmpty with
        | true =>
          refine y_ifT rfl ?_
          walk_at "zg"
          refine hq _ _ ((x1.trans (Ext.push _)).trans (Ext.push _)) (Nat.le_trans (x1.len) (by simp)) ?_
          rw [get_push, hd, hcs]; rfl
        | false =>
          refine y_ifF rfl ?_
          walk_at "zg"
          refine hq _ _ ((x1.trans (Ext.push _)).trans (Ext.push _)) (Nat.le_trans (x1.len) (by simp)) ?_
          rw [get_push, hd, hcs]; rfl
    · refine y_ifT (by rw [decide_eq_false (by omega : ¬ (rs.length : Int) ≤ 8)]; rfl) ?_
      walk_at "zg"
      refine hq _ _ (Ext.push _) (Nat.le_refl _) ?_
      rw [get_push, none_ (by omega)]
  · rw [decide_eq_false (by omega : ¬ (1 : Int) ≤ rs.length)]
    dsimp only
    refine y_ifT rfl ?_
    walk_at "zg"
    refine hq _ _ (Ext.push _) (Nat.le_refl _) ?_
    rw [get_push, none_ (by omega)]
end Z
namespace Z
open PySem PySem.Spec PyProof.Rows L2
local macro_rules | `(tactic| walk_at "zs") => `(tactic| (first | with_reducible refine y_seq ?_ | with_reducible refine y_asg ?_ | with_reducible refine y_expr ?_ | with_reducible refine y_ret ?_ | with_reducible refine y_retN ?_ | with_reducible refine y_next ?_ | with_reducible refine y_if ?_ | with_reducible refine y_par ?_ | with_reducible refine y_par3 ?_ | with_reducible refine y_put ?_ | with_reducible refine y_setF ?_ | with_reducible refine y_raise ?_ | with_reducible refine y_for ?_ | with_reducible refine y_c ?_ | with_reducible refine y_bin ?_ | with_reducible refine y_sl ?_ | with_reducible refine y_noP ?_ | with_reducible refine y_part ?_ | with_reducible refine y_tup ?_ | with_reducible refine y_lst ?_ | with_reducible refine y_andV ?_ | with_reducible refine y_orV ?_ | with_reducible refine y_notV ?_ | with_reducible refine y_ifE ?_ | with_reducible refine y_neg ?_ | with_reducible refine y_chain ?_ | with_reducible refine y_cal ?_ | with_reducible refine y_met ?_ | with_reducible refine y_call ?_ | with_reducible refine y_meth ?_ | with_reducible refine y_cmeth ?_ | with_reducible refine y_fld ?_ | with_reducible refine y_lc ?_ | with_reducible refine y_tst ?_ | with_reducible refine y_not ?_ | with_reducible refine y_and ?_ | with_reducible refine y_or ?_ | with_reducible refine y_yes ?_ | with_reducible refine y_nil ?_ | with_reducible refine y_cons ?_ | with_reducible refine y_iter ?_ | with_reducible refine y_itT ?_ | with_reducible refine y_itS ?_ | with_reducible refine y_gN ?_ | with_reducible refine y_gsN ?_ | with_reducible refine y_gsC ?_ | with_reducible refine y_newL ?_ | with_reducible refine y_addI ?_ | with_reducible refine y_subI ?_ | with_reducible refine y_leI ?_ | with_reducible refine y_geI ?_ | with_reducible refine y_ltI ?_ | with_reducible refine y_gtI ?_ | with_reducible refine y_eqI ?_ | with_reducible refine y_eqS ?_ | with_reducible refine y_lenT ?_ | with_reducible refine y_lenF ?_ | with_reducible refine y_int ?_ | with_reducible refine y_isN ?_ | with_reducible refine y_isI ?_ | with_reducible refine y_isS ?_ | with_reducible refine y_isT ?_ | with_reducible refine y_isR ?_ | with_reducible refine y_slT ?_ | with_reducible refine y_min ?_ | with_reducible refine y_max ?_ | with_reducible refine y_rng1 ?_ | with_reducible refine y_rng2 ?_ | with_reducible refine y_enum ?_ | with_reducible refine y_dict0 ?_ | with_reducible refine y_lenI ?_ | with_reducible refine y_atI ?_ | with_reducible refine y_callI ?_ | ((with_reducible apply y_var); exact rfl) | ((with_reducible apply y_aug); exact rfl) | ((with_reducible refine y_gT ?_ ?_); exact rfl) | ((with_reducible apply y_atT); exact rfl) | ((with_reducible refine y_ifT ?_ ?_); exact rfl) | ((with_reducible refine y_ifF ?_ ?_); exact rfl) | ((with_reducible refine And.intro ?_ ?_); first | exact Nat.le_of_ble_eq_true rfl | exact trivial | assumption)))
local macro_rules | `(tactic| walk_at "zg") => `(tactic| (repeat walk_at "zs"))
local macro_rules | `(tactic| walk_at "get") => `(tactic| (repeat first | assumption | ((with_reducible apply get_is); exact rfl) | with_reducible refine get_past ?_))
local macro_rules | `(tactic| walk_at "ext") => `(tactic| (repeat first | assumption | exact Ext.refl | with_reducible refine ext_past ?_))
/-! ### the law's turns -/
def w_ly4 : WS := (wSeq (wAsg (wCall sp__law_of [] (wCons (wVar 1) (wCons (wLst (wCons (wC .non) (wCons (wC (.int 5)) (wCons (wC (.str "all")) (wCons (wDict wdNil) (wCons (wC (.bl true)) wNil)))))) wNil))) (gN 4)) (wSeq (wAsg (wLst (wCons (wRaised 4 w__law_raised (wCMeth "Style" sp_Style_of (wCons (wVar 12) (wCons (wVar 4) wNil)))) (wCons (wRaised 4 w__law_raised (wCMeth "Style" sp_Style_of (wCons (wVar 11) (wCons (wVar 4) wNil)))) wNil))) (gN 9)) (wIf (wTst (wBin (fEq true) (wCal gRepr (wCons (wVar 9) wNil)) (wCal gRepr (wCons (wLst (wCons (wTup (wCons (wC (.str "rule")) (wCons (wC .non) wNil))) (wCons (wTup (wCons (wC (.str "base")) (wCons (wVar 11) wNil))) wNil))) wNil)))) (wRet (wC (.bl false))) wNext)))
def w_ly3 : WS := (wSeq (wIf (wTst (wBin (fEq false) (wVar 5) (wLst wNil))) (wSeq (wAsg (wCal gList (wCons (wVar 14) wNil)) (gN 7)) (wSeq (wAsg (wCMeth "Style" sp_Style_of (wCons (wVar 12) (wCons (wVar 7) wNil))) (gN 8)) (wSeq (wExpr (wMet isLst fAppend (wVar 7) (wCons (wBin fAt (wVar 7) (wC (.int 0))) wNil))) (wIf (wTst (wBin (fEq true) (wCal gRepr (wCons (wLst (wCons (wFld ["Style"] "own_base" (wVar 8)) (wCons (wFld ["Style"] "own_rules" (wVar 8)) (wCons (wLenI "Style" sp_Style___len__ (wVar 8)) wNil)))) wNil)) (wCal gRepr (wCons (wLst (wCons (wVar 12) (wCons (wVar 14) (wCons (wCal gLen (wCons (wVar 14) wNil)) wNil)))) wNil)))) (wRet (wC (.bl false))) wNext)))) wNext) w_ly4)
def w_ly2 : WS := (wSeq (wAsg (wCall sp__law_of [] (wCons (wVar 1) (wCons (wLst (wCons (wC .non) (wCons (wC (.int 1)) (wCons (wC (.int 11)) (wCons (wC (.int 0)) (wCons (wC (.bl true)) (wCons (wC (.str "10")) (wCons (wTup (wCons (wC (.int 2)) wNil)) (wCons (wBin fPow (wC (.int 10)) (wC (.int 20))) wNil))))))))) wNil))) (gN 11)) (wSeq (wIf (wTst (wBin (fEq true) (wCal gRepr (wCons (wRaised 4 w__law_raised (wCMeth "Style" sp_Style_of (wCons (wVar 11) (wCons (wVar 14) wNil)))) wNil)) (wCal gRepr (wCons (wTup (wCons (wC (.str "base")) (wCons (wVar 11) wNil))) wNil)))) (wRet (wC (.bl false))) wNext) w_ly3))
def w_ly1 : WS := (wSeq (wAsg (wLst (wCons (wRaised 4 w__law_raised (wCMeth "Style" sp_Style_of (wCons (wVar 12) (wCons (wVar 14) wNil)))) (wCons (wRaised 4 w__law_raised (wCMeth "Style" sp_Style_of (wCons (wVar 12) (wCons (wCal gList (wCons (wVar 14) wNil)) wNil)))) wNil))) (gN 6)) (wSeq (wIf (wTst (wBin (fEq true) (wCal gRepr (wCons (wVar 6) wNil)) (wCal gRepr (wCons (wBin fMul (wLst (wCons (wIfE (wTst (wBin (fEq true) (wVar 5) (wLst wNil))) (wTup (wCons (wC (.str "rule")) (wCons (wBin fAt (wVar 5) (wC (.int 0))) wNil))) (wTup wNil)) wNil)) (wC (.int 2))) wNil)))) (wRet (wC (.bl false))) wNext) w_ly2))
def w_ly0 : WS := (wSeq (wAsg (wBin fAdd (wC (.int 2)) (wCall sp__law_draw [] (wCons (wVar 1) (wCons (wC (.int 9)) wNil)))) (gN 12)) (wSeq (wAsg (wCall sp__law_row [] (wCons (wVar 1) (wCons (wVar 12) (wCons (wVar 2) wNil)))) (gN 14)) (wSeq (wAsg (wCall sp__law_due [] (wCons (wVar 14) (wCons (wLc [4] (wIter (wVar 2)) (gN 4) wYes (wCal gRepr (wCons (wVar 4) wNil))) wNil))) (gN 5)) w_ly1)))
def w_lz2 : WS := (wSeq (wAsg (wTup (wCons (wTup wNil) (wCons (wTup (wCons (wC (.str "all")) wNil)) wNil))) (gN 13)) (wSeq (wAsg (wLst (wCons (wRaised 4 w__law_raised (wCall (mkSp "Style" (starSp 2 sp_Style___init__)) [] (wCons (wC (.int 10)) wNil))) (wCons (wRaised 4 w__law_raised (wCall (mkSp "Style" (starSp 2 sp_Style___init__)) [] (wCons (wC (.int 2)) (wCons (wTup wNil) wNil)))) wNil))) (gN 9)) (wSeq (wExpr (wMet isLst fAppend (wVar 9) (wCons (wRaised 4 w__law_raised (wCall (mkSp "Style" (starSp 2 sp_Style___init__)) [] (wCons (wC (.int 3)) (wCons (wVar 13) wNil)))) wNil))) (wSeq (wAsg (wLst (wCons (wRaised 4 w__law_raised (wCall (mkSp "Style" (starSp 2 sp_Style___init__)) [] (wCons (wC (.int 1)) (wCons (wTup wNil) wNil)))) (wCons (wRaised 4 w__law_raised (wCall (mkSp "Style" (starSp 2 sp_Style___init__)) [] (wCons (wC (.int 11)) wNil))) wNil))) (gN 10)) (wSeq (wIf (wTst (wBin (fEq true) (wVar 10) (wLst (wCons (wTup (wCons (wC (.str "base")) (wCons (wC (.int 1)) wNil))) (wCons (wTup (wCons (wC (.str "base")) (wCons (wC (.int 11)) wNil))) wNil))))) (wRet (wC (.bl false))) wNext) (wRet (wAndV (wBin (fEq false) (wCal gRepr (wCons (wVar 9) wNil)) (wCal gRepr (wCons (wLst (wCons (wTup (wCons (wC (.str "rule")) (wCons (wC .non) wNil))) (wCons (wTup (wCons (wC (.str "rule")) (wCons (wC (.int 0)) wNil))) (wCons (wTup wNil) wNil)))) wNil))) (wBin (fEq false) (wFld ["Style"] "own_rules" (wCall (mkSp "Style" (starSp 2 sp_Style___init__)) [] (wCons (wC (.int 4)) (wCons (wVar 13) (wCons (wVar 13) wNil))))) (wTup (wCons (wVar 13) (wCons (wVar 13) wNil)))))))))))
def w_lz1 : WS := (wSeq (wFor (wRng1 (wCons (wBin fAdd (wC (.int 4)) (wCal gMin2 (wCons (wC (.int 8)) (wCons (wCal gLen (wCons (wVar 0) wNil)) wNil)))) wNil)) (gN 3) (wSeq (wAsg (wBin fAdd (wC (.int 2)) (wCall sp__law_draw [] (wCons (wVar 1) (wCons (wC (.int 9)) wNil)))) (gN 12)) (wSeq (wAsg (wCall sp__law_row [] (wCons (wVar 1) (wCons (wVar 12) (wCons (wVar 2) wNil)))) (gN 14)) (wSeq (wAsg (wCall sp__law_due [] (wCons (wVar 14) (wCons (wLc [4] (wIter (wVar 2)) (gN 4) wYes (wCal gRepr (wCons (wVar 4) wNil))) wNil))) (gN 5)) (wSeq (wAsg (wLst (wCons (wRaised 4 w__law_raised (wCMeth "Style" sp_Style_of (wCons (wVar 12) (wCons (wVar 14) wNil)))) (wCons (wRaised 4 w__law_raised (wCMeth "Style" sp_Style_of (wCons (wVar 12) (wCons (wCal gList (wCons (wVar 14) wNil)) wNil)))) wNil))) (gN 6)) (wSeq (wIf (wTst (wBin (fEq true) (wCal gRepr (wCons (wVar 6) wNil)) (wCal gRepr (wCons (wBin fMul (wLst (wCons (wIfE (wTst (wBin (fEq true) (wVar 5) (wLst wNil))) (wTup (wCons (wC (.str "rule")) (wCons (wBin fAt (wVar 5) (wC (.int 0))) wNil))) (wTup wNil)) wNil)) (wC (.int 2))) wNil)))) (wRet (wC (.bl false))) wNext) (wSeq (wAsg (wCall sp__law_of [] (wCons (wVar 1) (wCons (wLst (wCons (wC .non) (wCons (wC (.int 1)) (wCons (wC (.int 11)) (wCons (wC (.int 0)) (wCons (wC (.bl true)) (wCons (wC (.str "10")) (wCons (wTup (wCons (wC (.int 2)) wNil)) (wCons (wBin fPow (wC (.int 10)) (wC (.int 20))) wNil))))))))) wNil))) (gN 11)) (wSeq (wIf (wTst (wBin (fEq true) (wCal gRepr (wCons (wRaised 4 w__law_raised (wCMeth "Style" sp_Style_of (wCons (wVar 11) (wCons (wVar 14) wNil)))) wNil)) (wCal gRepr (wCons (wTup (wCons (wC (.str "base")) (wCons (wVar 11) wNil))) wNil)))) (wRet (wC (.bl false))) wNext) (wSeq (wIf (wTst (wBin (fEq false) (wVar 5) (wLst wNil))) (wSeq (wAsg (wCal gList (wCons (wVar 14) wNil)) (gN 7)) (wSeq (wAsg (wCMeth "Style" sp_Style_of (wCons (wVar 12) (wCons (wVar 7) wNil))) (gN 8)) (wSeq (wExpr (wMet isLst fAppend (wVar 7) (wCons (wBin fAt (wVar 7) (wC (.int 0))) wNil))) (wIf (wTst (wBin (fEq true) (wCal gRepr (wCons (wLst (wCons (wFld ["Style"] "own_base" (wVar 8)) (wCons (wFld ["Style"] "own_rules" (wVar 8)) (wCons (wLenI "Style" sp_Style___len__ (wVar 8)) wNil)))) wNil)) (wCal gRepr (wCons (wLst (wCons (wVar 12) (wCons (wVar 14) (wCons (wCal gLen (wCons (wVar 14) wNil)) wNil)))) wNil)))) (wRet (wC (.bl false))) wNext)))) wNext) (wSeq (wAsg (wCall sp__law_of [] (wCons (wVar 1) (wCons (wLst (wCons (wC .non) (wCons (wC (.int 5)) (wCons (wC (.str "all")) (wCons (wDict wdNil) (wCons (wC (.bl true)) wNil)))))) wNil))) (gN 4)) (wSeq (wAsg (wLst (wCons (wRaised 4 w__law_raised (wCMeth "Style" sp_Style_of (wCons (wVar 12) (wCons (wVar 4) wNil)))) (wCons (wRaised 4 w__law_raised (wCMeth "Style" sp_Style_of (wCons (wVar 11) (wCons (wVar 4) wNil)))) wNil))) (gN 9)) (wIf (wTst (wBin (fEq true) (wCal gRepr (wCons (wVar 9) wNil)) (wCal gRepr (wCons (wLst (wCons (wTup (wCons (wC (.str "rule")) (wCons (wC .non) wNil))) (wCons (wTup (wCons (wC (.str "base")) (wCons (wVar 11) wNil))) wNil))) wNil)))) (wRet (wC (.bl false))) wNext)))))))))))) w_lz2)
def w_lz0 : WS := (wSeq (wAsg (wCall sp__law_begin [] (wCons (wVar 0) wNil)) (gN 1)) (wSeq (wAsg (wLst (wCons (wC .non) (wCons (wC (.int 5)) (wCons (wC (.str "all")) (wCons (wTup wNil) (wCons (wTup (wCons (wTup wNil) (wCons (wTup (wCons (wC (.str "all")) (wCons (wC (.int 1)) wNil))) wNil))) (wCons (wTup (wCons (wLst wNil) (wCons (wTup (wCons (wC (.str "all")) wNil)) wNil))) (wCons (wTup (wCons (wTup (wCons (wTup (wCons (wC (.str "near")) (wCons (wC (.int 9)) wNil))) wNil)) (wCons (wTup (wCons (wC (.str "all")) wNil)) wNil))) (wCons (wLst (wCons (wTup wNil) (wCons (wTup (wCons (wC (.str "all")) wNil)) wNil))) wNil))))))))) (gN 2)) w_lz1))
def sp_law : DSp := fun ds ah q _ => ∃ ns : List Int, ds = [.frl (ns.map D.int)] ∧ ns.length ≤ 63 ∧ ah = [] ∧ ∀ ah', q (.bl true) ah'
def w_law : WS := (wSeq (wAsg (wCall sp__law_begin [] (wCons (wVar 0) wNil)) (gN 1)) (wSeq (wAsg (wLst (wCons (wC .non) (wCons (wC (.int 5)) (wCons (wC (.str "all")) (wCons (wTup wNil) (wCons (wTup (wCons (wTup wNil) (wCons (wTup (wCons (wC (.str "all")) (wCons (wC (.int 1)) wNil))) wNil))) (wCons (wTup (wCons (wLst wNil) (wCons (wTup (wCons (wC (.str "all")) wNil)) wNil))) (wCons (wTup (wCons (wTup (wCons (wTup (wCons (wC (.str "near")) (wCons (wC (.int 9)) wNil))) wNil)) (wCons (wTup (wCons (wC (.str "all")) wNil)) wNil))) (wCons (wLst (wCons (wTup wNil) (wCons (wTup (wCons (wC (.str "all")) wNil)) wNil))) wNil))))))))) (gN 2)) (wSeq (wFor (wRng1 (wCons (wBin fAdd (wC (.int 4)) (wCal gMin2 (wCons (wC (.int 8)) (wCons (wCal gLen (wCons (wVar 0) wNil)) wNil)))) wNil)) (gN 3) (wSeq (wAsg (wBin fAdd (wC (.int 2)) (wCall sp__law_draw [] (wCons (wVar 1) (wCons (wC (.int 9)) wNil)))) (gN 12)) (wSeq (wAsg (wCall sp__law_row [] (wCons (wVar 1) (wCons (wVar 12) (wCons (wVar 2) wNil)))) (gN 14)) (wSeq (wAsg (wCall sp__law_due [] (wCons (wVar 14) (wCons (wLc [4] (wIter (wVar 2)) (gN 4) wYes (wCal gRepr (wCons (wVar 4) wNil))) wNil))) (gN 5)) (wSeq (wAsg (wLst (wCons (wRaised 4 w__law_raised (wCMeth "Style" sp_Style_of (wCons (wVar 12) (wCons (wVar 14) wNil)))) (wCons (wRaised 4 w__law_raised (wCMeth "Style" sp_Style_of (wCons (wVar 12) (wCons (wCal gList (wCons (wVar 14) wNil)) wNil)))) wNil))) (gN 6)) (wSeq (wIf (wTst (wBin (fEq true) (wCal gRepr (wCons (wVar 6) wNil)) (wCal gRepr (wCons (wBin fMul (wLst (wCons (wIfE (wTst (wBin (fEq true) (wVar 5) (wLst wNil))) (wTup (wCons (wC (.str "rule")) (wCons (wBin fAt (wVar 5) (wC (.int 0))) wNil))) (wTup wNil)) wNil)) (wC (.int 2))) wNil)))) (wRet (wC (.bl false))) wNext) (wSeq (wAsg (wCall sp__law_of [] (wCons (wVar 1) (wCons (wLst (wCons (wC .non) (wCons (wC (.int 1)) (wCons (wC (.int 11)) (wCons (wC (.int 0)) (wCons (wC (.bl true)) (wCons (wC (.str "10")) (wCons (wTup (wCons (wC (.int 2)) wNil)) (wCons (wBin fPow (wC (.int 10)) (wC (.int 20))) wNil))))))))) wNil))) (gN 11)) (wSeq (wIf (wTst (wBin (fEq true) (wCal gRepr (wCons (wRaised 4 w__law_raised (wCMeth "Style" sp_Style_of (wCons (wVar 11) (wCons (wVar 14) wNil)))) wNil)) (wCal gRepr (wCons (wTup (wCons (wC (.str "base")) (wCons (wVar 11) wNil))) wNil)))) (wRet (wC (.bl false))) wNext) (wSeq (wIf (wTst (wBin (fEq false) (wVar 5) (wLst wNil))) (wSeq (wAsg (wCal gList (wCons (wVar 14) wNil)) (gN 7)) (wSeq (wAsg (wCMeth "Style" sp_Style_of (wCons (wVar 12) (wCons (wVar 7) wNil))) (gN 8)) (wSeq (wExpr (wMet isLst fAppend (wVar 7) (wCons (wBin fAt (wVar 7) (wC (.int 0))) wNil))) (wIf (wTst (wBin (fEq true) (wCal gRepr (wCons (wLst (wCons (wFld ["Style"] "own_base" (wVar 8)) (wCons (wFld ["Style"] "own_rules" (wVar 8)) (wCons (wLenI "Style" sp_Style___len__ (wVar 8)) wNil)))) wNil)) (wCal gRepr (wCons (wLst (wCons (wVar 12) (wCons (wVar 14) (wCons (wCal gLen (wCons (wVar 14) wNil)) wNil)))) wNil)))) (wRet (wC (.bl false))) wNext)))) wNext) (wSeq (wAsg (wCall sp__law_of [] (wCons (wVar 1) (wCons (wLst (wCons (wC .non) (wCons (wC (.int 5)) (wCons (wC (.str "all")) (wCons (wDict wdNil) (wCons (wC (.bl true)) wNil)))))) wNil))) (gN 4)) (wSeq (wAsg (wLst (wCons (wRaised 4 w__law_raised (wCMeth "Style" sp_Style_of (wCons (wVar 12) (wCons (wVar 4) wNil)))) (wCons (wRaised 4 w__law_raised (wCMeth "Style" sp_Style_of (wCons (wVar 11) (wCons (wVar 4) wNil)))) wNil))) (gN 9)) (wIf (wTst (wBin (fEq true) (wCal gRepr (wCons (wVar 9) wNil)) (wCal gRepr (wCons (wLst (wCons (wTup (wCons (wC (.str "rule")) (wCons (wC .non) wNil))) (wCons (wTup (wCons (wC (.str "base")) (wCons (wVar 11) wNil))) wNil))) wNil)))) (wRet (wC (.bl false))) wNext)))))))))))) (wSeq (wAsg (wTup (wCons (wTup wNil) (wCons (wTup (wCons (wC (.str "all")) wNil)) wNil))) (gN 13)) (wSeq (wAsg (wLst (wCons (wRaised 4 w__law_raised (wCall (mkSp "Style" (starSp 2 sp_Style___init__)) [] (wCons (wC (.int 10)) wNil))) (wCons (wRaised 4 w__law_raised (wCall (mkSp "Style" (starSp 2 sp_Style___init__)) [] (wCons (wC (.int 2)) (wCons (wTup wNil) wNil)))) wNil))) (gN 9)) (wSeq (wExpr (wMet isLst fAppend (wVar 9) (wCons (wRaised 4 w__law_raised (wCall (mkSp "Style" (starSp 2 sp_Style___init__)) [] (wCons (wC (.int 3)) (wCons (wVar 13) wNil)))) wNil))) (wSeq (wAsg (wLst (wCons (wRaised 4 w__law_raised (wCall (mkSp "Style" (starSp 2 sp_Style___init__)) [] (wCons (wC (.int 1)) (wCons (wTup wNil) wNil)))) (wCons (wRaised 4 w__law_raised (wCall (mkSp "Style" (starSp 2 sp_Style___init__)) [] (wCons (wC (.int 11)) wNil))) wNil))) (gN 10)) (wSeq (wIf (wTst (wBin (fEq true) (wVar 10) (wLst (wCons (wTup (wCons (wC (.str "base")) (wCons (wC (.int 1)) wNil))) (wCons (wTup (wCons (wC (.str "base")) (wCons (wC (.int 11)) wNil))) wNil))))) (wRet (wC (.bl false))) wNext) (wRet ((wAndV (wBin (fEq false) (wCal gRepr (wCons (wVar 9) wNil)) (wCal gRepr (wCons (wLst (wCons (wTup (wCons (wC (.str "rule")) (wCons (wC .non) wNil))) (wCons (wTup (wCons (wC (.str "rule")) (wCons (wC (.int 0)) wNil))) (wCons (wTup wNil) wNil)))) wNil))) (wBin (fEq false) (wFld ["Style"] "own_rules" (wCall (mkSp "Style" (starSp 2 sp_Style___init__)) [] (wCons (wC (.int 4)) (wCons (wVar 13) (wCons (wVar 13) wNil))))) (wTup (wCons (wVar 13) (wCons (wVar 13) wNil)))))))))))))))
theorem law_eq : w_law = w_lz0 := rfl
theorem due_one (b : Nat) (rs : List D) : dueL b rs = [] ∨ ∃ v, dueL b rs = [v] ∧ (v = .non ∨ ∃ i : Nat, v = .int (i : Nat) ∧ i ≤ rs.length) := by
  unfold dueL
  split
  · rename_i h
    cases hf : rs.findIdx? fun r => !ruleB b r with
    | some i =>
      dsimp only
      refine .inr ⟨_, rfl, .inr ⟨i, rfl, ?_⟩⟩
      have := (List.findIdx?_eq_some_iff_findIdx_eq.mp hf).1
      omega
    | none =>
      dsimp only
      split
      · exact .inl rfl
      · exact .inr ⟨_, rfl, .inr ⟨rs.length - 1, by congr 1; omega, by omega⟩⟩
  · exact .inr ⟨_, rfl, .inl rfl⟩
theorem due_nil {b : Nat} {rs : List D} (h : dueL b rs = []) : 1 ≤ rs.length ∧ rs.length ≤ 8 := by
  unfold dueL at h
  split at h
  · assumption
  · cases h
def tD (b : Nat) (rs : List D) : D := match dueL b rs with
  | v :: _ => .tup [.str "rule", v]
  | [] => .tup []
theorem rowN_sm : ∀ i : Nat, i ≤ 30 → smB (.tup [.str "rule", .int (i : Nat)]) = true := by decide +kernel
theorem tD_sm {b : Nat} {rs : List D} (hl : rs.length ≤ 30) : smB (tD b rs) = true := by
  unfold tD
  rcases due_one b rs with h | ⟨v, h, hv⟩
  · rw [h]; decide +kernel
  · rw [h]
    rcases hv with rfl | ⟨i, rfl, hi⟩
    · decide +kernel
    · exact rowN_sm i (by omega)
theorem sm_list {l : List D} {ah : AH} {m : Nat} (h : l.all smB = true) (hl : l.length ≤ 10) (hm : ah[m]? = some (.lst l)) : Seen 12 ah (.ref m) (.list (toPs l)) ∧ fineP (.list (toPs l)) = true ∧ wt (.list (toPs l)) ≤ 16777216 := by
  have g : stiffs l = true ∧ deps l ≤ 10 ∧ finePs (toPs l) = true ∧ wts (toPs l) ≤ 20002 * l.length := by
    clear hm hl
    induction l with
    | nil => exact ⟨rfl, Nat.zero_le _, rfl, Nat.zero_le _⟩
    | cons d l ih =>
      rw [List.all_cons, Bool.and_eq_true] at h
      obtain ⟨i1, i2, i3, i4⟩ := ih h.2
      have s := sm_of h.1
      refine ⟨?_, ?_, ?_, ?_⟩
      · show (stiff d && stiffs l) = true; rw [s.sh.st, i1]; rfl
      · show max (dep d) (deps l) ≤ 10
        have := s.dp; omega
      · show (fineP (toP d) && finePs (toPs l)) = true; rw [s.sh.fi, i3]; rfl
      · show wt (toP d) + 2 + wts (toPs l) ≤ _
        have := s.le; rw [List.length_cons]; omega
  refine ⟨(Seen.lst hm (SeenL.stiff (k := 10) g.1 g.2.1)).up (by decide), g.2.2.1, ?_⟩
  show wts (toPs l) + 3 ≤ _
  have := g.2.2.2
  omega
/-- Style.of with a row, as a tuple or a list -/
theorem sty_of {b n1 n2 : Nat} {rs : List D} {r : D} {ah : AH} {q : QE} {x : QX} (h2 : 2 ≤ b) (hb : b ≤ 10) (he : ∀ d ∈ rs, El b n1 n2 d) (od : Od n1 n2 ah) (hl : rs.length ≤ 30) (hr : r = .tup rs ∨ ∃ m, r = .ref m ∧ ah[m]? = some (.lst rs))
    (hx : ∀ v ah', Ext ah ah' → dueL b rs = [v] → x ("BadRule", [("place", v)]) ah') (hq : dueL b rs = [] → ∀ n ah', Ext ah ah' → ah.length ≤ n → ah'[n]? = some (styO (.int b) rs) → q (.ref n) ah') :
    sp_Style_of [.glo "Style", .int b, r] ah q x := by
  have oks : okDs ah rs = true := okDs_all fun d hd => el_ok od (he d hd)
  refine ⟨.int b, r, rfl, rfl, ?_, ?_⟩
  · rcases hr with rfl | ⟨m, rfl, hm⟩
    · unfold okD; exact oks
    · exact ty_ref hm
  · rw [if_pos (among_of h2 hb)]
    have e : rowOf ah r = some rs := by
      rcases hr with rfl | ⟨m, rfl, hm⟩
      · rfl
      · unfold rowOf; simp only [hm]
    rw [e]
    refine ⟨oks, by omega, fun ah' x' => ?_⟩
    rw [style_due h2 hb]
    rcases due_one b rs with h | ⟨v, h, _⟩
    · rw [h]
      exact hq h |> fun k n hn g => k n ah' x' hn g
    · rw [h]
      exact hx v ah' x' h
theorem sty_bad {d r : D} {ah : AH} {q : QE} {x : QX} (h1 : okD ah d = true) (h2 : okD ah r = true) (h : among d 2 10 = false) (hx : x ("BadBase", [("value", d)]) ah) : sp_Style_of [.glo "Style", d, r] ah q x :=
  ⟨d, r, rfl, h1, h2, by rw [if_neg (by rw [h]; decide)]; exact hx⟩
theorem sty_no {b : Nat} {r : D} {ah : AH} {q : QE} {x : QX} (h2 : 2 ≤ b) (hb : b ≤ 10) (ho : okD ah r = true) (hr : rowOf ah r = none) (hx : x ("BadRule", [("place", .non)]) ah) : sp_Style_of [.glo "Style", .int b, r] ah q x :=
  ⟨.int b, r, rfl, rfl, ho, by rw [if_pos (among_of h2 hb), hr]; exact hx⟩
theorem y_listT {l : List D} {ah : AH} {q : QE} (hq : newL l ah q) : gList [.tup l] ah q := hq
/-- what is told of Style.of(base, rules) -/
theorem told_of {b n1 n2 : Nat} {rs : List D} {wb : WE} {env : En} {ah : AH} {q : QE} {x : QX} (h2 : 2 ≤ b) (hb : b ≤ 10) (he : ∀ d ∈ rs, El b n1 n2 d) (od : Od n1 n2 ah) (hl : rs.length ≤ 30)
    (hw : ∀ (ah1 : AH) (q' : QE) (x' : QX), Ext ah ah1 → (∀ ah2 r, Ext ah1 ah2 → (r = .tup rs ∨ ∃ m, r = .ref m ∧ ah2[m]? = some (.lst rs)) → sp_Style_of [.glo "Style", .int (b : Nat), r] ah2 q' x') → wb env ah1 q' x')
    (hq : ∀ ah', Ext ah ah' → q (tD b rs) ah') : wRaised 4 w__law_raised wb env ah q x := by
  refine raise_any fun q' x' k1 k2 => hw _ _ _ (Ext.push _) fun ah2 r x2 hr => ?_
  refine sty_of h2 hb he (od.ext ((Ext.push _).trans x2)) hl hr (fun v ah' x' e => ?_) (fun e n ah' x' hn g => ?_)
  · refine k2 _ _ (.tup [.str "rule", v]) (x2.trans x') (tell_rule v) fun ah3 x3 _ => ?_
    have := hq ah3 x3
    unfold tD at this
    rw [e] at this
    exact this
  · have x4 : Ext ah ah' := ((Ext.push _).trans x2).trans x'
    refine k1 _ _ x4 ?_
    have := hq ah' x4
    unfold tD at this
    rw [e] at this
    exact this
def badL5 : List D := [.non, .int 1, .int 11, .int 0, .bl true, .str "10", .tup [.int 2], .int (10 ^ 20)]
theorem bad5 {d : D} (h : d ∈ badL5) : smB d = true ∧ smB (.tup [.str "base", d]) = true ∧ among d 2 10 = false ∧ ∀ ah, okD ah d = true := by
  have g : (badL5.all fun d => smB d && (smB (.tup [.str "base", d]) && !among d 2 10)) = true := by decide +kernel
  have h1 := List.all_eq_true.mp g d h
  simp only [Bool.and_eq_true, Bool.not_eq_true'] at h1
  refine ⟨h1.1, h1.2.1, h1.2.2, fun ah => ?_⟩
  have g2 : okDs ah badL5 = true := by kernel_rfl
  exact okDs_mem g2 d h

/-! the repr of each thing of a list -/
theorem repr_go {ok : AH → Prop} {env : En} {q : QE} {ah : AH} (hok : ok ah) (hi : ∀ d, gt (Z.st env 4 d) 4 = some d) : ∀ (l : List D) (ps : List PyData) (acc : List D), SeenL 4 ah l ps → (ps.all fun p => fineP p && decide (wt p ≤ 16777216)) = true → acc.length + l.length < 1000 →
    newL (acc ++ ps.map fun p => D.str p.shown) ah q → lcGo ok (gN 4) wYes (wCal gRepr (wCons (wVar 4) wNil)) env q l acc ah
  | [], ps, acc, hs, hf, hl, hq => by
    have := hs 4 (Nat.le_refl _)
    cases ps with
    | nil => rw [List.map_nil, List.append_nil] at hq; exact ⟨hok, hq⟩
    | cons p ps => cases this
  | d :: l, ps, acc, hs, hf, hl, hq => by
    rw [List.length_cons] at hl
    have h4 := hs 4 (Nat.le_refl _)
    unfold pds at h4
    cases e1 : pdz 4 ah d with
    | none => rw [e1] at h4; cases h4
    | some p =>
      cases e2 : pds (pdz 4 ah) l with
      | none => rw [e1, e2] at h4; cases h4
      | some ps' =>
        rw [e1, e2] at h4
        cases h4
        have both : ∀ n, 4 ≤ n → pdz n ah d = some p ∧ pds (pdz n ah) l = some ps' := fun n hn => by
          have := hs n hn
          unfold pds at this
          cases f1 : pdz n ah d with
          | none => rw [f1] at this; cases this
          | some p2 =>
            cases f2 : pds (pdz n ah) l with
            | none => rw [f1, f2] at this; cases this
            | some ps2 => rw [f1, f2] at this; cases this; exact ⟨rfl, rfl⟩
        rw [List.all_cons, Bool.and_eq_true, Bool.and_eq_true, decide_eq_true_eq] at hf
        refine ⟨hok, Nat.lt_trans (show acc.length < 1000 by omega) (by decide), ?_⟩
        show wCal gRepr (wCons (wVar 4) wNil) (Z.st env 4 d) ah _ _
        refine y_cal (y_cons (y_var (hi d) (y_nil ?_)))
        refine repr_seen (k := 4) (fun n hn => (both n hn).1) (by decide) hf.1.1 hf.1.2 ?_
        refine repr_go hok hi l ps' _ (fun n hn => (both n hn).2) hf.2 (by rw [List.length_append]; show acc.length + 1 + l.length < 1000; omega) ?_
        rw [List.append_assoc]
        exact hq
theorem odd_seenL {n1 n2 : Nat} {ah : AH} (o : Od n1 n2 ah) : SeenL 4 ah (oddL n1 n2) oddP := by
  unfold oddL oddP
  refine SeenL.cons (Seen.stiff rfl (by decide)) (SeenL.cons (Seen.stiff rfl (by decide)) (SeenL.cons (Seen.stiff rfl (by decide)) (SeenL.cons (Seen.stiff rfl (by decide)) (SeenL.cons (Seen.stiff rfl (by decide)) (SeenL.cons ?_ (SeenL.cons (Seen.stiff rfl (by decide)) (SeenL.cons ?_ SeenL.nil)))))))
  · exact (Seen.tup (SeenL.cons (k := 2) ((Seen.lst o.g1 (SeenL.nil (k := 0))).up (by decide)) (SeenL.cons (Seen.stiff (d := .tup [.str "all"]) rfl (by decide)) SeenL.nil))).up (by decide)
  · exact (Seen.lst o.g2 (SeenL.stiff (k := 2) (l := [.tup [], .tup [.str "all"]]) rfl (by decide))).up (by decide)
abbrev E5 (e0 : Option D) (ro : Nat) (o3 o4 o5 o6 o7 o8 o9 o10 o11 o12 o13 o14 : Option D) : En := [e0, some (.ref 3), some (.ref ro), o3, o4, o5, o6, o7, o8, o9, o10, o11, o12, o13, o14]
section
variable {b ro n1 n2 a m : Nat} {rs : List D} {bad : D} {e0 o3 o4 o5 o6 o7 o8 o9 o10 o11 o12 o13 o14 : Option D} {ah : AH} {dn : DEnds} {x : QXS}
structure H5 (ro n1 n2 : Nat) (ah : AH) : Prop where
  o4 : 4 ≤ ro
  n4 : 4 ≤ n1 ∧ 4 ≤ n2
  od : Od n1 n2 ah
  rl : ah[ro]? = some (.lst (oddL n1 n2))
theorem H5.ext {ah' : AH} (h : H5 ro n1 n2 ah) (e : Ext ah ah') : H5 ro n1 n2 ah' := ⟨h.o4, h.n4, h.od.ext e, e _ _ h.rl⟩
theorem H5.fm {ah' : AH} (h : H5 ro n1 n2 ah) (e : Fm ah ah') : H5 ro n1 n2 ah' := ⟨h.o4, h.n4, h.od.fm h.n4.1 h.n4.2 e, e _ _ h.o4 h.rl⟩
theorem u0 (h : H5 ro n1 n2 ah) (hs : SI a ah) (ha : a < 2 ^ 37)
    (hk : ∀ b rs m a' ah' o4, 2 ≤ b → b ≤ 10 → (∀ d ∈ rs, El b n1 n2 d) → rs.length ≤ 30 → ah'[m]? = some (.lst (dueL b rs)) → 4 ≤ m → a' ≤ a + 5001 → SI a' ah' → H5 ro n1 n2 ah' → w_ly1 (E5 e0 ro o3 o4 (some (.ref m)) o6 o7 o8 o9 o10 o11 (some (.int (b : Nat))) o13 (some (.tup rs))) ah' dn x) :
    w_ly0 (E5 e0 ro o3 o4 o5 o6 o7 o8 o9 o10 o11 o12 o13 o14) ah dn x := by
  unfold w_ly0 E5
  walk_at "zg"
  refine draw_call (many := 9) (by decide) (by decide) hs (by omega) fun r ah1 hr s1 f1 => ?_
  walk_at "zg"
  rw [show (2 : Int) + (r : Nat) = ((2 + r : Nat) : Int) by omega]
  have h1 := h.fm f1
  refine row_call (b := 2 + r) (by omega) (by omega) h1.o4 h1.rl s1 (by omega) fun rs a2 ah2 he hl ha2 s2 f2 => ?_
  have h2 := h1.fm f2
  walk_at "zg"
  refine y_itL h2.rl ?_
  refine repr_go h2.rl (fun d => rfl) _ _ _ (odd_seenL h2.od) (by decide +kernel) (by show 0 + 8 < 1000; decide) ?_
  walk_at "zg"
  refine ⟨2 + r, _, n1, n2, rs, rfl, by omega, by omega, get_push _ _, h2.od.ext (Ext.push _), he, hl, fun m ah3 x3 hm g3 => ?_⟩
  walk_at "zg"
  have s3 := s2.ext ((Ext.push _).trans x3)
  exact hk _ rs m a2 ah3 _ (by omega) (by omega) he hl g3 (by have := s2.len; rw [List.length_append] at hm; omega) (by omega) s3 (h2.ext ((Ext.push _).trans x3))
theorem u1 (h2 : 2 ≤ b) (hb : b ≤ 10) (he : ∀ d ∈ rs, El b n1 n2 d) (hl : rs.length ≤ 30) (hm : ah[m]? = some (.lst (dueL b rs))) (h : H5 ro n1 n2 ah) (hs : SI a ah)
    (hk : ∀ ah' o6, Ext ah ah' → w_ly2 (E5 e0 ro o3 o4 (some (.ref m)) o6 o7 o8 o9 o10 o11 (some (.int (b : Nat))) o13 (some (.tup rs))) ah' dn x) :
    w_ly1 (E5 e0 ro o3 o4 (some (.ref m)) o6 o7 o8 o9 o10 o11 (some (.int (b : Nat))) o13 (some (.tup rs))) ah dn x := by
  unfold w_ly1 E5
  walk_at "zg"
  refine told_of h2 hb he h.od hl (fun ah1 q' x' x1 k => ?_) fun ah1 x1 => ?_
  · walk_at "zg"
    exact k _ _ Ext.refl (.inl rfl)
  walk_at "zg"
  refine told_of h2 hb he (h.od.ext x1) hl (fun ah2 q' x' x2 k => ?_) fun ah2 x2 => ?_
  · walk_at "zg"
    refine y_listT ?_
    walk_at "zg"
    exact k _ _ (Ext.push _) (.inr ⟨_, rfl, get_push _ _⟩)
  walk_at "zg"
  have x3 := (x1.trans x2).trans (Ext.push [O.lst [tD b rs, tD b rs]])
  have g3 := get_push ah2 (O.lst [tD b rs, tD b rs])
  generalize ah2 ++ [O.lst [tD b rs, tD b rs]] = ah3 at *
  generalize List.length ah2 = l6 at *
  have sm := tD_sm (b := b) hl
  have all2 : ([tD b rs, tD b rs] : List D).all smB = true := by simp [sm]
  have s6 := sm_list all2 (by show 2 ≤ 10; decide) g3
  refine repr_seen s6.1 (by decide) s6.2.1 s6.2.2 ?_
  walk_at "zg"
  refine eq_nil ?_ (get_past (x3 _ _ hm)) (get_push _ _) ?_
  · rcases due_one b rs with e | ⟨v, e, hv⟩
    · rw [e]; rfl
    · rw [e]
      rcases hv with rfl | ⟨i, rfl, _⟩ <;> rfl
  walk_at "zg"
  have mul : ∀ t, t = tD b rs → ∀ (ah4 : AH) (n : Nat), Ext ah3 ah4 → ah4[n]? = some (.lst [t]) → ∀ k : QE, (∀ ah5 n, Ext ah4 ah5 → ah5[n]? = some (.lst [tD b rs, tD b rs]) → k (.ref n) ah5) → fMul (.ref n) (.int 2) ah4 k := fun t ht ah4 n x4 g4 k hk => by
    subst ht
    refine y_mulL (k := 2) g4 (by decide) (by show 1 * 2 ≤ _; decide) ?_
    exact hk _ _ (Ext.push _) (get_push _ _)
  have fin : ∀ ah5 n, Ext ah3 ah5 → ah5[n]? = some (.lst [tD b rs, tD b rs]) → ∀ (k : QE), k (.bl false) ah5 → gRepr [.ref n] ah5 (fun d2 ah2 => fEq true (.str (PyData.list (toPs [tD b rs, tD b rs])).shown) d2 ah2 k) := fun ah5 n x5 g5 k hk => by
    have s5 := sm_list all2 (by show 2 ≤ 10; decide) g5
    exact repr_same s5.1 (by decide) s5.2.1 s5.2.2 hk
  rcases due_one b rs with e | ⟨v, e, hv⟩
  · refine y_ifF (by rw [e]; rfl) ?_
    walk_at "zg"
    refine mul _ (by unfold tD; rw [e]) _ _ ((Ext.push _).trans (Ext.push _)) (get_push _ _) _ fun ah5 n x5 g5 => ?_
    walk_at "zg"
    refine fin _ _ (((Ext.push _).trans (Ext.push _)).trans x5) g5 _ ?_
    walk_at "zg"
    exact hk _ _ (x3.trans (((Ext.push _).trans (Ext.push _)).trans x5))
  · refine y_ifT (by rw [e]; rfl) ?_
    walk_at "zg"
    refine y_atL (get_past (x3 _ _ hm)) (show atI (dueL b rs) 0 = some v by rw [e]; rfl) ?_
    walk_at "zg"
    refine mul _ (by unfold tD; rw [e]) _ _ ((Ext.push _).trans (Ext.push _)) (get_push _ _) _ fun ah5 n x5 g5 => ?_
    walk_at "zg"
    refine fin _ _ (((Ext.push _).trans (Ext.push _)).trans x5) g5 _ ?_
    walk_at "zg"
    exact hk _ _ (x3.trans (((Ext.push _).trans (Ext.push _)).trans x5))
theorem rs_ok (he : ∀ d ∈ rs, El b n1 n2 d) (od : Od n1 n2 ah) : okD ah (.tup rs) = true := by
  unfold okD; exact okDs_all fun d hd => el_ok od (he d hd)
theorem u2 (h2 : 2 ≤ b) (hb : b ≤ 10) (he : ∀ d ∈ rs, El b n1 n2 d) (hm : ah[m]? = some (.lst (dueL b rs))) (m4 : 4 ≤ m) (h : H5 ro n1 n2 ah) (hs : SI a ah) (ha : a < 2 ^ 40)
    (hk : ∀ bad ah', bad ∈ badL5 → SI (a + 1) ah' → ah'[m]? = some (.lst (dueL b rs)) → H5 ro n1 n2 ah' → w_ly3 (E5 e0 ro o3 o4 (some (.ref m)) o6 o7 o8 o9 o10 (some bad) (some (.int (b : Nat))) o13 (some (.tup rs))) ah' dn x) :
    w_ly2 (E5 e0 ro o3 o4 (some (.ref m)) o6 o7 o8 o9 o10 o11 (some (.int (b : Nat))) o13 (some (.tup rs))) ah dn x := by
  unfold w_ly2 E5
  walk_at "zg"
  refine ⟨⟨by decide, by decide, by decide⟩, ?_⟩
  walk_at "zg"
  have l0 := hs.len
  refine lawof_call (l := badL5) l0 (get_push _ _) (by decide) (by decide) (hs.ext (Ext.push _)) (by omega) fun bad ah1 hbad s1 f1 => ?_
  have h1 := (h.ext (Ext.push _)).fm f1
  have m1 := f1 _ _ m4 (get_past hm)
  have bd := bad5 hbad
  walk_at "zg"
  refine raise_any fun q' x' _ k2 => ?_
  walk_at "zg"
  refine sty_bad (bd.2.2.2 _) (rs_ok he (h1.od.ext (Ext.push _))) bd.2.2.1 ?_
  refine k2 _ _ _ Ext.refl (tell_base bad) fun ah2 x2 _ => ?_
  have sm := sm_of bd.2.1
  walk_at "zg"
  refine repr_sh sm.sh ?_
  walk_at "zg"
  refine repr_sh sm.sh (fEq_refl ?_)
  walk_at "zg"
  exact hk bad _ hbad (s1.ext x2) (x2 _ _ m1) (h1.ext x2)
theorem u3 (h2 : 2 ≤ b) (hb : b ≤ 10) (he : ∀ d ∈ rs, El b n1 n2 d) (hl : rs.length ≤ 30) (hm : ah[m]? = some (.lst (dueL b rs))) (m4 : 4 ≤ m) (h : H5 ro n1 n2 ah) (hs : SI a ah)
    (hk : ∀ o7 o8 ah', SI a ah' → H5 ro n1 n2 ah' → w_ly4 (E5 e0 ro o3 o4 (some (.ref m)) o6 o7 o8 o9 o10 (some bad) (some (.int (b : Nat))) o13 (some (.tup rs))) ah' dn x) :
    w_ly3 (E5 e0 ro o3 o4 (some (.ref m)) o6 o7 o8 o9 o10 (some bad) (some (.int (b : Nat))) o13 (some (.tup rs))) ah dn x := by
  unfold w_ly3 E5
  walk_at "zg"
  refine eq_nil ?_ (get_past hm) (get_push _ _) ?_
  · rcases due_one b rs with e | ⟨v, e, hv⟩
    · rw [e]; rfl
    · rw [e]
      rcases hv with rfl | ⟨i, rfl, _⟩ <;> rfl
  walk_at "zg"
  rcases due_one b rs with e | ⟨v, e, hv⟩
  · refine y_ifT (by rw [e]; rfl) ?_
    have hlen := due_nil e
    walk_at "zg"
    refine y_listT ?_
    walk_at "zg"
    have h1 := (h.ext (Ext.push [O.lst []])).ext (Ext.push [O.lst rs])
    have s1 := (hs.ext (Ext.push [O.lst []])).ext (Ext.push [O.lst rs])
    have g1 := get_push (ah ++ [O.lst []]) (O.lst rs)
    have l7 : 4 ≤ (ah ++ [O.lst []]).length := (hs.ext (Ext.push _)).len
    have od7 : ro < (ah ++ [O.lst []]).length ∧ n1 < (ah ++ [O.lst []]).length ∧ n2 < (ah ++ [O.lst []]).length := ⟨at_lt (get_past h.rl), at_lt (get_past h.od.g1), at_lt (get_past h.od.g2)⟩
    generalize (ah ++ [O.lst []]) ++ [O.lst rs] = ah1 at *
    generalize (ah ++ [O.lst []]).length = k7 at *
    refine sty_of h2 hb he h1.od hl (.inr ⟨k7, rfl, g1⟩) (fun v ah' x' e' => by rw [e] at e'; cases e') fun _ n ah2 x2 hn g2 => ?_
    have g7 := x2 _ _ g1
    have hne : n ≠ k7 := fun z => by
      have := at_lt g1
      omega
    obtain ⟨r, rr, hr⟩ : ∃ r rr, rs = r :: rr := by
      cases rs with
      | nil => simp at hlen
      | cons r rr => exact ⟨r, rr, rfl⟩
    walk_at "zg"
    refine ⟨y_isL g7, ?_⟩
    walk_at "zg"
    refine y_atL g7 (show atI rs 0 = some r by rw [hr]; exact at0) ?_
    walk_at "zg"
    refine y_appL g7 (Nat.lt_of_le_of_lt hl (by decide)) ?_
    walk_at "zg"
    have g3 : (ah2.set k7 (.lst (rs ++ [r])))[n]? = some (styO (.int b) rs) := get_set g2 (Ne.symm hne)
    have h3 : H5 ro n1 n2 (ah2.set k7 (.lst (rs ++ [r]))) := by
      have := h1.ext x2
      exact ⟨this.o4, this.n4, ⟨get_set this.od.g1 (by omega), get_set this.od.g2 (by omega)⟩, get_set this.rl (by omega)⟩
    have s3 : SI a (ah2.set k7 (.lst (rs ++ [r]))) := (s1.ext x2).set l7
    generalize ah2.set k7 (O.lst (rs ++ [r])) = ah3 at *
    refine y_fldI g3 (by decide) look_base ?_
    walk_at "zg"
    refine y_fldI g3 (by decide) look_rules ?_
    walk_at "zg"
    refine y_insA g3 ⟨n, _, rs, rfl, g3, hlen.2, _, rfl, ⟨by omega, by omega⟩, ?_⟩
    walk_at "zg"
    have hb' : ∀ d ∈ rs, ∃ p, Row b ah3 d p := fun d hd => (he d hd).row hb h3.od
    -- all are rules
    have all_ : rs.all (ruleB b) = true := by
      refine List.all_eq_true.mpr fun d hd => ?_
      unfold dueL at e
      rw [if_pos hlen] at e
      cases hf : rs.findIdx? fun r => !ruleB b r with
      | some i => rw [hf] at e; cases e
      | none =>
        have := List.findIdx?_eq_none_iff.mp hf d hd
        simpa using this
    have rp := rules_pl hb rs all_
    have sp : ∀ ah : AH, ∀ n, ah[n]? = some (.lst [.int (b : Nat), .tup rs, .int (rs.length : Nat)]) → Seen 6 ah (.ref n) (.list [.int (b : Nat), .tuple (toPs rs), .int (rs.length : Nat)]) := fun ah n g =>
      (Seen.lst g (SeenL.cons (k := 5) (Seen.stiff (d := .int (b : Nat)) rfl (Nat.zero_le _)) (SeenL.cons (Seen.stiff (d := .tup rs) (by unfold stiff; exact rp.st) (by unfold dep; have := rp.dp; omega)) (SeenL.cons (Seen.stiff (d := .int (rs.length : Nat)) rfl (Nat.zero_le _)) SeenL.nil))))
    have fi : fineP (.list [.int (b : Nat), .tuple (toPs rs), .int (rs.length : Nat)]) = true := by
      have f1 : fineP (.int (b : Nat)) = true := (sh_int (n := b) (Nat.lt_of_le_of_lt hb (by decide +kernel))).fi
      have f2 : fineP (.int (rs.length : Nat)) = true := (sh_int (n := rs.length) (Nat.lt_of_le_of_lt hl (by decide +kernel))).fi
      have f3 : fineP (.tuple (toPs rs)) = true := plains_fine _ rp.pl
      exact fines_cons f1 (fines_cons f3 (fines_cons f2 rfl))
    have wl : wt (.list [.int (b : Nat), .tuple (toPs rs), .int (rs.length : Nat)]) ≤ 16777216 := by
      have := rp.le
      show 1921 + 2 + (wts (toPs rs) + 3 + 2 + (1921 + 2 + 0)) + 3 ≤ 16777216
      omega
    refine repr_seen (sp _ _ (get_push _ _)) (by decide) fi wl ?_
    walk_at "zg"
    refine repr_same (sp _ _ (get_push _ _)) (by decide) fi wl ?_
    walk_at "zg"
    exact hk _ _ _ ((s3.ext (Ext.push _)).ext (Ext.push _)) ((h3.ext (Ext.push _)).ext (Ext.push _))
  · refine y_ifF (by rw [e]; rfl) ?_
    walk_at "zg"
    exact hk _ _ _ (hs.ext (Ext.push _)) (h.ext (Ext.push _))
def thL (r : Nat) : List D := [.non, .int 5, .str "all", .ref r, .bl true]
theorem u4 (h2 : 2 ≤ b) (hb : b ≤ 10) (hbad : bad ∈ badL5) (h : H5 ro n1 n2 ah) (hs : SI a ah) (ha : a < 2 ^ 40)
    (hk : ∀ env ah', (∃ o3 o4 o5 o6 o7 o8 o9 o10 o11 o12 o13 o14, env = E5 e0 ro o3 o4 o5 o6 o7 o8 o9 o10 o11 o12 o13 o14) → SI (a + 1) ah' → H5 ro n1 n2 ah' → dn.nx env ah') :
    w_ly4 (E5 e0 ro o3 o4 o5 o6 o7 o8 o9 o10 (some bad) (some (.int (b : Nat))) o13 o14) ah dn x := by
  unfold w_ly4 E5
  have l0 := hs.len
  walk_at "zg"
  refine lawof_call (l := thL ah.length) (by rw [List.length_append]; omega) (get_push _ _) (by show 0 < 5; decide) (by show 5 < 1000; decide) ((hs.ext (Ext.push _)).ext (Ext.push _)) (by omega) fun th ah1 hth s1 f1 => ?_
  have h1 := ((h.ext (Ext.push _)).ext (Ext.push _)).fm f1
  have gd := f1 _ _ l0 (get_past (get_push ah (O.dct [])))
  have ok : ∀ ah', Ext ah1 ah' → okD ah' th = true ∧ rowOf ah' th = none := fun ah' x' => by
    have gd' := x' _ _ gd
    unfold thL at hth
    simp only [List.mem_cons, List.not_mem_nil, or_false] at hth
    rcases hth with rfl | rfl | rfl | rfl | rfl
    · exact ⟨rfl, rfl⟩
    · exact ⟨rfl, rfl⟩
    · exact ⟨by unfold okD; exact decide_eq_true (Nat.lt_of_le_of_lt (show ("all" : Str).length ≤ 3 by decide +kernel) (by decide)), rfl⟩
    · exact ⟨by unfold okD; simp only [tyD, gd']; rfl, by unfold rowOf; simp only [gd']⟩
    · exact ⟨rfl, rfl⟩
  walk_at "zg"
  refine raise_any fun q' x' _ k2 => ?_
  walk_at "zg"
  refine sty_no h2 hb (ok _ (Ext.push _)).1 (ok _ (Ext.push _)).2 ?_
  refine k2 _ _ _ Ext.refl (tell_rule .non) fun ah2 x2 _ => ?_
  have bd := bad5 hbad
  walk_at "zg"
  refine raise_any fun q' x' _ k2 => ?_
  walk_at "zg"
  refine sty_bad (bd.2.2.2 _) (ok _ (x2.trans (Ext.push _))).1 bd.2.2.1 ?_
  refine k2 _ _ _ Ext.refl (tell_base bad) fun ah3 x3 _ => ?_
  walk_at "zg"
  have all2 : ([.tup [.str "rule", .non], .tup [.str "base", bad]] : List D).all smB = true := by
    rw [List.all_cons, List.all_cons, bd.2.1]
    have : smB (.tup [.str "rule", .non]) = true := by decide +kernel
    rw [this]; rfl
  have e1 := sm_list (l := [.tup [.str "rule", .non], .tup [.str "base", bad]]) all2 (by show 2 ≤ 10; decide) (get_push ah3 _)
  refine repr_seen e1.1 (by decide) e1.2.1 e1.2.2 ?_
  walk_at "zg"
  have e2 := sm_list (l := [.tup [.str "rule", .non], .tup [.str "base", bad]]) all2 (by show 2 ≤ 10; decide) (get_push (ah3 ++ [O.lst [.tup [.str "rule", .non], .tup [.str "base", bad]]]) _)
  refine repr_same e2.1 (by decide) e2.2.1 e2.2.2 ?_
  walk_at "zg"
  have x5 := (x2.trans x3).trans ((Ext.push [O.lst [.tup [.str "rule", .non], .tup [.str "base", bad]]]).trans (Ext.push [O.lst [.tup [.str "rule", .non], .tup [.str "base", bad]]]))
  exact hk _ _ ⟨_, _, _, _, _, _, _, _, _, _, _, _, rfl⟩ (s1.ext x5) (h1.ext x5)
theorem turn5 (h : H5 ro n1 n2 ah) (hs : SI a ah) (ha : a < 2 ^ 36)
    (hk : ∀ env a' ah', (∃ o3 o4 o5 o6 o7 o8 o9 o10 o11 o12 o13 o14, env = E5 e0 ro o3 o4 o5 o6 o7 o8 o9 o10 o11 o12 o13 o14) → a' ≤ a + 5010 → SI a' ah' → H5 ro n1 n2 ah' → dn.nx env ah') :
    w_ly0 (E5 e0 ro o3 o4 o5 o6 o7 o8 o9 o10 o11 o12 o13 o14) ah dn x := by
  refine u0 h hs (by omega) fun b rs m a1 ah1 o4 h2 hb he hl hm m4 ha1 s1 h1 => ?_
  refine u1 h2 hb he hl hm h1 s1 fun ah2 o6 x2 => ?_
  refine u2 h2 hb he (x2 _ _ hm) m4 (h1.ext x2) (s1.ext x2) (by omega) fun bad ah3 hbad s3 m3 h3 => ?_
  refine u3 h2 hb he hl m3 m4 h3 s3 fun o7 o8 ah4 s4 h4 => ?_
  exact u4 h2 hb hbad h4 s4 (by omega) fun env ah5 he s5 h5 => hk _ _ _ he (by omega) s5 h5
end
end Z
namespace Z
open PySem PySem.Spec PyProof.Rows L2
local macro_rules | `(tactic| walk_at "zs") => `(tactic| (first | with_reducible refine y_seq ?_ | with_reducible refine y_asg ?_ | with_reducible refine y_expr ?_ | with_reducible refine y_ret ?_ | with_reducible refine y_retN ?_ | with_reducible refine y_next ?_ | with_reducible refine y_if ?_ | with_reducible refine y_par ?_ | with_reducible refine y_par3 ?_ | with_reducible refine y_put ?_ | with_reducible refine y_setF ?_ | with_reducible refine y_raise ?_ | with_reducible refine y_for ?_ | with_reducible refine y_c ?_ | with_reducible refine y_bin ?_ | with_reducible refine y_sl ?_ | with_reducible refine y_noP ?_ | with_reducible refine y_part ?_ | with_reducible refine y_tup ?_ | with_reducible refine y_lst ?_ | with_reducible refine y_andV ?_ | with_reducible refine y_orV ?_ | with_reducible refine y_notV ?_ | with_reducible refine y_ifE ?_ | with_reducible refine y_neg ?_ | with_reducible refine y_chain ?_ | with_reducible refine y_cal ?_ | with_reducible refine y_met ?_ | with_reducible refine y_call ?_ | with_reducible refine y_meth ?_ | with_reducible refine y_cmeth ?_ | with_reducible refine y_fld ?_ | with_reducible refine y_lc ?_ | with_reducible refine y_tst ?_ | with_reducible refine y_not ?_ | with_reducible refine y_and ?_ | with_reducible refine y_or ?_ | with_reducible refine y_yes ?_ | with_reducible refine y_nil ?_ | with_reducible refine y_cons ?_ | with_reducible refine y_iter ?_ | with_reducible refine y_itT ?_ | with_reducible refine y_itS ?_ | with_reducible refine y_gN ?_ | with_reducible refine y_gsN ?_ | with_reducible refine y_gsC ?_ | with_reducible refine y_newL ?_ | with_reducible refine y_addI ?_ | with_reducible refine y_subI ?_ | with_reducible refine y_leI ?_ | with_reducible refine y_geI ?_ | with_reducible refine y_ltI ?_ | with_reducible refine y_gtI ?_ | with_reducible refine y_eqI ?_ | with_reducible refine y_eqS ?_ | with_reducible refine y_lenT ?_ | with_reducible refine y_lenF ?_ | with_reducible refine y_int ?_ | with_reducible refine y_isN ?_ | with_reducible refine y_isI ?_ | with_reducible refine y_isS ?_ | with_reducible refine y_isT ?_ | with_reducible refine y_isR ?_ | with_reducible refine y_slT ?_ | with_reducible refine y_min ?_ | with_reducible refine y_max ?_ | with_reducible refine y_rng1 ?_ | with_reducible refine y_rng2 ?_ | with_reducible refine y_enum ?_ | with_reducible refine y_dict0 ?_ | with_reducible refine y_lenI ?_ | with_reducible refine y_atI ?_ | with_reducible refine y_callI ?_ | ((with_reducible apply y_var); exact rfl) | ((with_reducible apply y_aug); exact rfl) | ((with_reducible refine y_gT ?_ ?_); exact rfl) | ((with_reducible apply y_atT); exact rfl) | ((with_reducible refine y_ifT ?_ ?_); exact rfl) | ((with_reducible refine y_ifF ?_ ?_); exact rfl) | ((with_reducible refine And.intro ?_ ?_); first | exact Nat.le_of_ble_eq_true rfl | exact trivial | assumption)))
local macro_rules | `(tactic| walk_at "zg") => `(tactic| (repeat walk_at "zs"))
local macro_rules | `(tactic| walk_at "get") => `(tactic| (repeat first | assumption | ((with_reducible apply get_is); exact rfl) | with_reducible refine get_past ?_))
local macro_rules | `(tactic| walk_at "ext") => `(tactic| (repeat first | assumption | exact Ext.refl | with_reducible refine ext_past ?_))
/-- lists of stiff things, equal or not -/
theorem eq_stiffL {l l' : List D} {n m : Nat} {ah : AH} {q : QE} {c : Bool} (hn : ah[n]? = some (.lst l)) (hm : ah[m]? = some (.lst l')) (h1 : (stiffs l && decide (deps l ≤ 15)) = true) (h2 : (stiffs l' && decide (deps l' ≤ 15)) = true)
    (s1 : SeqAt.shaped (.list (toPs l)) = true) (s2 : SeqAt.shaped (.list (toPs l')) = true) (e : PyData.eqv (.list (toPs l)) (.list (toPs l')) = c) (hq : q (.bl (true != c)) ah) : fEq true (.ref n) (.ref m) ah q := by
  rw [Bool.and_eq_true, decide_eq_true_eq] at h1 h2
  refine ⟨.list (toPs l), .list (toPs l'), ?_, ?_, s1, s2, by rw [e]; exact hq⟩
  · show (match ah[n]? with | some (.lst xs) => (pds (pd 19 ah) xs).map PyData.list | _ => none) = _
    rw [hn]
    show (pds (pd 19 ah) l).map PyData.list = _
    rw [pds_stiff ah l 19 h1.1 (by omega)]; rfl
  · show (match ah[m]? with | some (.lst xs) => (pds (pd 19 ah) xs).map PyData.list | _ => none) = _
    rw [hm]
    show (pds (pd 19 ah) l').map PyData.list = _
    rw [pds_stiff ah l' 19 h2.1 (by omega)]; rfl
theorem lz1_eq : w_lz1 = (wSeq (wFor (wRng1 (wCons (wBin fAdd (wC (.int 4)) (wCal gMin2 (wCons (wC (.int 8)) (wCons (wCal gLen (wCons (wVar 0) wNil)) wNil)))) wNil)) (gN 3) w_ly0) w_lz2) := rfl
abbrev lastR : D := .tup [.tup [], .tup [.str "all"]]
theorem last_ok {b : Nat} : ruleB b lastR = true := by
  show (decide (0 ≤ 3) && (true && keepB (.tup [.str "all"]))) = true
  decide +kernel
theorem one_ok {b : Nat} : OkR b [lastR] := ⟨by rw [List.all_cons, last_ok]; rfl, by decide, by decide, rfl⟩
theorem two_ok {b : Nat} : OkR b [lastR, lastR] := ⟨by rw [List.all_cons, List.all_cons, last_ok]; rfl, by decide, by decide, rfl⟩
/-- Style(..) that is refused -/
theorem mk_bad {d : D} {rs : List D} {e : XD} {ah : AH} {q : QE} {x : QX} (hd : okD ah d = true) (hr : okDs ah rs = true) (hl : rs.length ≤ 8) (h : styleErr d rs = some e) (hx : ∀ ah', Ext ah ah' → x e ah') : mkSp "Style" (starSp 2 sp_Style___init__) (d :: rs) ah q x := by
  refine ⟨by simp, Nat.le_trans (show ((D.ref ah.length :: d :: rs).drop 2).length ≤ 8 by simpa using hl) (by decide), ah.length, d, rs, rfl, get_push _ _, okD_ext (Ext.push _) hd, okDs_ext (Ext.push _) hr, fun ah' he => ?_⟩
  rw [h]
  exact hx _ he.of_push
theorem raise_mk {d : D} {rs : List D} {e : XD} {t : D} {ws : WA} {env : En} {ah : AH} {q : QE} {x : QX} (ht : Told e t) (hd : ∀ ah, okD ah d = true) (hr : ∀ ah, okDs ah rs = true) (hl : rs.length ≤ 8) (h : styleErr d rs = some e)
    (hw : ∀ (ah : AH) (qa : List D → AH → Prop) (x : QX), qa (d :: rs) ah → ws env ah qa x) (hq : ∀ ah', Ext ah ah' → q t ah') : wRaised 4 w__law_raised (wCall (mkSp "Style" (starSp 2 sp_Style___init__)) [] ws) env ah q x :=
  raise_sp ht hw (fun ah1 q x _ k => mk_bad (hd _) (hr _) hl h k) hq
theorem law5_end {e0 o3 o4 o5 o6 o7 o8 o9 o10 o11 o12 o13 o14 : Option D} {ro : Nat} {ah : AH} {dn : DEnds} {x : QXS} (hq : ∀ ah', dn.rt (.bl true) ah') : w_lz2 (E5 e0 ro o3 o4 o5 o6 o7 o8 o9 o10 o11 o12 o13 o14) ah dn x := by
  unfold w_lz2 E5
  walk_at "zg"
  refine raise_mk (d := .int 10) (rs := []) (tell_rule .non) (fun _ => rfl) (fun _ => rfl) (by decide) rfl (fun _ _ _ k => by walk_at "zg"; exact k) fun ah1 x1 => ?_
  walk_at "zg"
  refine raise_mk (d := .int 2) (rs := [.tup []]) (tell_rule (.int 0)) (fun _ => rfl) (fun _ => rfl) (by decide) rfl (fun _ _ _ k => by walk_at "zg"; exact k) fun ah2 x2 => ?_
  walk_at "zg"
  have g2 := get_push ah2 (O.lst [.tup [.str "rule", .non], .tup [.str "rule", .int 0]])
  generalize ah2 ++ [O.lst [.tup [.str "rule", .non], .tup [.str "rule", .int 0]]] = ah3 at *
  generalize List.length ah2 = m9 at *
  refine app_raise (t := .tup []) g2 (Nat.le_of_ble_eq_true rfl) (fun q x hq => ?_) fun ah4 e4 g4 => ?_
  · refine raise_any fun q' x' k1 _ => ?_
    walk_at "zg"
    exact style_call (b := 3) (rs := [lastR]) (by decide) (by decide) one_ok fun n ah' xx _ _ => k1 _ _ ((Ext.push _).trans xx) (hq _ ((Ext.push _).trans xx))
  walk_at "zg"
  refine raise_mk (d := .int 1) (rs := [.tup []]) (tell_base (.int 1)) (fun _ => rfl) (fun _ => rfl) (by decide) rfl (fun _ _ _ k => by walk_at "zg"; exact k) fun ah5 x5 => ?_
  walk_at "zg"
  refine raise_mk (d := .int 11) (rs := []) (tell_base (.int 11)) (fun _ => rfl) (fun _ => rfl) (by decide) rfl (fun _ _ _ k => by walk_at "zg"; exact k) fun ah6 x6 => ?_
  walk_at "zg"
  have g6 : (ah6 ++ [O.lst [.tup [.str "base", .int 1], .tup [.str "base", .int 11]]])[m9]? = some (.lst ([.tup [.str "rule", .non], .tup [.str "rule", .int 0]] ++ [.tup []])) := get_past (x6 _ _ (x5 _ _ g4))
  have h6 := get_push ah6 (O.lst [.tup [.str "base", .int 1], .tup [.str "base", .int 11]])
  generalize ah6 ++ [O.lst [.tup [.str "base", .int 1], .tup [.str "base", .int 11]]] = ah7 at *
  generalize List.length ah6 = m10 at *
  refine eq_stiffL (l := [.tup [.str "base", .int 1], .tup [.str "base", .int 11]]) (l' := [.tup [.str "base", .int 1], .tup [.str "base", .int 11]]) (get_past h6) (get_push _ _) (by decide +kernel) (by decide +kernel) (by decide +kernel) (by decide +kernel) (c := true) (by decide +kernel) ?_
  walk_at "zg"
  have sm : ([.tup [.str "rule", .non], .tup [.str "rule", .int 0], .tup []] : List D).all smB = true := by decide +kernel
  have s1 := sm_list sm (by show 3 ≤ 10; decide) (get_past (l := [O.lst [.tup [.str "base", .int 1], .tup [.str "base", .int 11]]]) g6)
  refine repr_seen s1.1 (by decide) s1.2.1 s1.2.2 ?_
  walk_at "zg"
  have s2 := sm_list sm (by show 3 ≤ 10; decide) (get_push (ah7 ++ [O.lst [.tup [.str "base", .int 1], .tup [.str "base", .int 11]]]) _)
  refine repr_seen s2.1 (by decide) s2.2.1 s2.2.2 (fEq_refl ?_)
  show wBin _ _ _ _ _ _ _
  walk_at "zg"
  refine style_call (b := 4) (rs := [lastR, lastR]) (by decide) (by decide) two_ok fun n ah8 x8 _ g8 => ?_
  refine y_fldI g8 (by decide) look_rules ?_
  walk_at "zg"
  refine ⟨.tuple (toPs [lastR, lastR]), .tuple (toPs [lastR, lastR]), rfl, rfl, by decide +kernel, by decide +kernel, ?_⟩
  rw [show (false != PyData.eqv (.tuple (toPs [lastR, lastR])) (.tuple (toPs [lastR, lastR]))) = true by decide +kernel]
  exact hq _
theorem lz1_all {ns : List Int} {ro n1 n2 : Nat} {o3 o4 o5 o6 o7 o8 o9 o10 o11 o12 o13 o14 : Option D} {ah : AH} {dn : DEnds} {x : QXS} (hl : ns.length ≤ 63) (h : H5 ro n1 n2 ah) (hs : SI 0 ah) (hq : ∀ ah', dn.rt (.bl true) ah') :
    w_lz1 (E5 (some (.frl (ns.map D.int))) ro o3 o4 o5 o6 o7 o8 o9 o10 o11 o12 o13 o14) ah dn x := by
  rw [lz1_eq]
  unfold E5
  walk_at "zg"
  have hm : (0 : Int) ≤ (if ((ns.map D.int).length : Int) < 8 then ((ns.map D.int).length : Int) else 8) ∧ (if ((ns.map D.int).length : Int) < 8 then ((ns.map D.int).length : Int) else 8) ≤ 8 := by
    rw [List.length_map]
    split <;> omega
  refine ⟨by omega, by omega, ?_⟩
  refine forGo_rule (fun l env ah' => ∃ a o3 o4 o5 o6 o7 o8 o9 o10 o11 o12 o13 o14, env = E5 (some (.frl (ns.map D.int))) ro o3 o4 o5 o6 o7 o8 o9 o10 o11 o12 o13 o14 ∧ a + 5010 * l.length ≤ 100000 ∧ SI a ah' ∧ H5 ro n1 n2 ah') ?_ ?_ ?_ _ _ _ ⟨0, o3, o4, o5, o6, o7, o8, o9, o10, o11, o12, o13, o14, rfl, ?_, hs, h⟩
  · rintro l env ah' _
    trivial
  · rintro env ah' ⟨a, o3, o4, o5, o6, o7, o8, o9, o10, o11, o12, o13, o14, rfl, ha, s', h'⟩
    exact law5_end hq
  · rintro d l env ah' K ⟨a, o3, o4, o5, o6, o7, o8, o9, o10, o11, o12, o13, o14, rfl, ha, s', h'⟩ hK
    rw [List.length_cons] at ha
    unfold E5
    walk_at "zg"
    refine turn5 (o3 := some d) h' s' (by omega) ?_
    rintro env a2 ah2 ⟨o3, o4, o5, o6, o7, o8, o9, o10, o11, o12, o13, o14, rfl⟩ ha2 s2 h2
    exact hK _ _ ⟨a2, o3, o4, o5, o6, o7, o8, o9, o10, o11, o12, o13, o14, rfl, by omega, s2, h2⟩
  · rw [rangeD_len]
    have : ((4 : Int) + (if ((ns.map D.int).length : Int) < 8 then ((ns.map D.int).length : Int) else 8)).toNat ≤ 12 := by omega
    exact Nat.le_trans (show 0 + 5010 * _ ≤ 5010 * 12 from by rw [Nat.zero_add]; exact Nat.mul_le_mul_left _ this) (by decide)
theorem law_start : ∀ ns : List Int, ns.length ≤ 63 → (∀ z ∈ ns, Builtin.Int.intBits z ≤ 1048576) → sp_law [.frl (ns.map D.int)] [] (fun d _ => d = .bl true) fun _ _ => False :=
  fun ns h _ => ⟨ns, rfl, h, rfl, fun _ => rfl⟩
theorem wp_law (ds : List D) (ah : AH) (q : QE) (x : QX) (h : sp_law ds ah q x) : w_law (startD 15 ds) ah { nx := fun _ ah' => q .non ah', rt := q } (fun e _ ah' => x e ah') := by
  obtain ⟨ns, rfl, hl, rfl, hq⟩ := h
  rw [law_eq]
  show w_lz0 [some (.frl (ns.map D.int)), none, none, none, none, none, none, none, none, none, none, none, none, none, none] [] _ _
  unfold w_lz0
  walk_at "zg"
  refine ⟨ns, rfl, by omega, rfl, fun ah1 s1 => ?_⟩
  walk_at "zg"
  have l1 := s1.len
  have g1 := get_push ah1 (O.lst [])
  have h5 : H5 ((ah1 ++ [O.lst []]) ++ [O.lst [.tup [], .tup [.str "all"]]]).length ah1.length (ah1 ++ [O.lst []]).length (((ah1 ++ [O.lst []]) ++ [O.lst [.tup [], .tup [.str "all"]]]) ++ [O.lst (oddL ah1.length (ah1 ++ [O.lst []]).length)]) :=
    ⟨by rw [List.length_append, List.length_append]; omega, ⟨l1, by rw [List.length_append]; omega⟩, ⟨get_past (get_past g1), get_past (get_push _ _)⟩, get_push _ _⟩
  have s5 := ((s1.ext (Ext.push [O.lst []])).ext (Ext.push [O.lst [.tup [], .tup [.str "all"]]])).ext (Ext.push [O.lst (oddL ah1.length (ah1 ++ [O.lst []]).length)])
  refine lz1_all (ns := ns) hl h5 s5 (fun ah' => hq ah')
end Z

namespace Z
open PySem PySem.Spec PyProof.Rows L2
section
variable {P : Program} {wd : World} {K : PySem.W.Frag} {mg : Str → Option Value} {base : Heap}
theorem sc__law_begin : FnScope ["script", "cells", "cell"] ["script"] (defScope (top 44)) := ⟨rfl, rfl, rfl, by decide +kernel, rfl, by decide +kernel, by decide +kernel⟩
theorem d__law_begin (m_list : mg "list" = none) {f : Addr} {cdv : Value} {A : Around} {outer : List Env} {s : Shared} {H : Hp} {E : XK} (hr : RoomG 0 (A.deeper (envOfC "_law_begin" (defScope (top 44)) s.heap.objs.size f cdv))) :
    DSs (cxOf (L2.CX P wd) P wd K mg base ["script", "cells", "cell"] "_law_begin" (defScope (top 44)) f cdv A outer s H E) (defBody (top 44)) w__law_begin := by
  have S := sc__law_begin
  exact (dss_cons (ds_set (i := 1) S.nd rfl (.inl rfl) (de_if (dt_cmp (bop_ne hr.units) (de_var (i := 0) rfl (.inl rfl)) (de_lst da_nil) (nomark _)) (de_callTy (cal_list) rfl m_list (by decide +kernel) (da_cons (de_var (i := 0) rfl (.inl rfl)) da_nil)) (de_lst (da_cons (de_int) da_nil))))
    (dss_one (ds_ret (de_dict (dd_cons (de_str) (de_var (i := 1) rfl (.inl rfl)) (dd_cons (de_str) (de_lc rfl S.nd (by exact (di_val (de_var (i := 1) rfl (.inl rfl)))) (blkOk_by (own := [("cell", 2)]) (by kernel_rfl)) (fun _ _ _ _ _ => (pg_name (i := 2) S.nd rfl (.inl rfl))) tgd_name (fun _ _ _ _ _ => dts_nil) (fun _ _ _ _ _ => (de_if (dt_cmp bop_ge (de_var (i := 2) rfl (.inl rfl)) (de_bin bop_pow (de_int) (de_int)) (nomark _)) (de_var (i := 2) rfl (.inl rfl)) (de_int)))) (dd_cons (de_str) (de_int) dd_nil))) (by rfl) (by rfl) (fun z => by cases z) (by decide)))))
theorem sc__law_mixed : FnScope ["cell", "k"] ["cell", "k"] (defScope (top 43)) := ⟨rfl, rfl, rfl, by decide +kernel, rfl, by decide +kernel, by decide +kernel⟩
theorem d__law_mixed (m_int : mg "int" = none) {f : Addr} {cdv : Value} {A : Around} {outer : List Env} {s : Shared} {H : Hp} {E : XK} (hr : RoomG 0 (A.deeper (envOfC "_law_mixed" (defScope (top 43)) s.heap.objs.size f cdv))) :
    DSs (cxOf (L2.CX P wd) P wd K mg base ["cell", "k"] "_law_mixed" (defScope (top 43)) f cdv A outer s H E) (defBody (top 43)) w__law_mixed := by
  have S := sc__law_mixed
  exact (dss_cons (ds_set (i := 0) S.nd rfl (.inl rfl) (de_bin bop_mod (de_callTy (cal_int) rfl m_int (by decide +kernel) (da_cons (de_var (i := 0) rfl (.inl rfl)) da_nil)) (de_int)))
    (dss_one (ds_ret (de_bin bop_mod (de_bin bop_mul (de_bin bop_mod (de_bin bop_add (de_bin bop_add (de_bin bop_mul (de_var (i := 0) rfl (.inl rfl)) (de_bin bop_add (de_int) (de_bin bop_mul (de_bin bop_mul (de_int) (de_var (i := 1) rfl (.inl rfl))) (de_var (i := 1) rfl (.inl rfl))))) (de_bin bop_mul (de_int) (de_var (i := 1) rfl (.inl rfl)))) (de_int)) (de_int)) (de_int)) (de_int)))))
theorem sc__law_draw : FnScope ["state", "many", "at", "place", "left", "number"] ["state", "many"] (defScope (top 45)) := ⟨rfl, rfl, rfl, by decide +kernel, rfl, by decide +kernel, by decide +kernel⟩
theorem d__law_draw (h__law_mixed : Has P wd K mg base "_law_mixed" 1 sp__law_mixed) (m_int : mg "int" = none) (m_len : mg "len" = none) {f : Addr} {cdv : Value} {A : Around} {outer : List Env} {s : Shared} {H : Hp} {E : XK} (hr : RoomG 1 (A.deeper (envOfC "_law_draw" (defScope (top 45)) s.heap.objs.size f cdv))) :
    DSs (cxOf (L2.CX P wd) P wd K mg base ["state", "many", "at", "place", "left", "number"] "_law_draw" (defScope (top 45)) f cdv A outer s H E) (defBody (top 45)) w__law_draw := by
  have S := sc__law_draw
  exact (dss_cons (ds_set (i := 2) S.nd rfl (.inl rfl) (de_at hr.units1 (de_var (i := 0) rfl (.inl rfl)) (de_str) (fun _ _ => rfl)))
    (dss_cons (ds_put hr.units1 (de_bin bop_add (de_var (i := 2) rfl (.inl rfl)) (de_int)) (de_var (i := 0) rfl (.inl rfl)) (de_str))
    (dss_cons (ds_set (i := 3) S.nd rfl (.inl rfl) (de_bin bop_mod (de_callTy (cal_int) rfl m_int (by decide +kernel) (da_cons (de_var (i := 2) rfl (.inl rfl)) da_nil)) (de_callB (cal_len) rfl m_len (by decide +kernel) (da_cons (de_at hr.units1 (de_var (i := 0) rfl (.inl rfl)) (de_str) (fun _ _ => rfl)) da_nil))))
    (dss_cons (ds_set (i := 4) S.nd rfl (.inl rfl) (de_at hr.units1 (de_at hr.units1 (de_var (i := 0) rfl (.inl rfl)) (de_str) (fun _ _ => rfl)) (de_var (i := 3) rfl (.inl rfl)) (fun _ _ => rfl)))
    (dss_cons (ds_if (dt_cmp bop_gt (de_var (i := 4) rfl (.inl rfl)) (de_int) (nomark _)) (dss_cons (ds_put hr.units1 (de_bin bop_div (de_var (i := 4) rfl (.inl rfl)) (de_var (i := 1) rfl (.inl rfl))) (de_at hr.units1 (de_var (i := 0) rfl (.inl rfl)) (de_str) (fun _ _ => rfl)) (de_var (i := 3) rfl (.inl rfl)))
    (dss_one (ds_ret (de_bin bop_mod (de_callTy (cal_int) rfl m_int (by decide +kernel) (da_cons (de_var (i := 4) rfl (.inl rfl)) da_nil)) (de_var (i := 1) rfl (.inl rfl)))))) dss_nil)
    (dss_cons (ds_set (i := 5) S.nd rfl (.inl rfl) (de_fn h__law_mixed hr (by decide) rfl (da_cons (de_fn h__law_mixed hr (by decide) rfl (da_cons (de_at hr.units1 (de_at hr.units1 (de_var (i := 0) rfl (.inl rfl)) (de_str) (fun _ _ => rfl)) (de_var (i := 3) rfl (.inl rfl)) (fun _ _ => rfl)) (da_cons (de_var (i := 2) rfl (.inl rfl)) da_nil))) (da_cons (de_bin bop_add (de_int) (de_var (i := 2) rfl (.inl rfl))) da_nil))))
    (dss_one (ds_ret (de_bin bop_mod (de_bin bop_div (de_callTy (cal_int) rfl m_int (by decide +kernel) (da_cons (de_bin bop_add (de_bin bop_mul (de_var (i := 5) rfl (.inl rfl)) (de_int)) (de_fn h__law_mixed hr (by decide) rfl (da_cons (de_var (i := 5) rfl (.inl rfl)) (da_cons (de_bin bop_add (de_int) (de_var (i := 2) rfl (.inl rfl))) da_nil)))) da_nil)) (de_int)) (de_var (i := 1) rfl (.inl rfl)))))))))))
theorem sc__law_condition : FnScope ["state", "base", "most", "way", "least", "top", "text", "k"] ["state", "base", "most"] (defScope (top 48)) := ⟨rfl, rfl, rfl, by decide +kernel, rfl, by decide +kernel, by decide +kernel⟩
theorem d__law_condition (h__law_draw : Has P wd K mg base "_law_draw" 2 sp__law_draw) (m_min : mg "min" = none) (m_range : mg "range" = none) {f : Addr} {cdv : Value} {A : Around} {outer : List Env} {s : Shared} {H : Hp} {E : XK} (hr : RoomG 2 (A.deeper (envOfC "_law_condition" (defScope (top 48)) s.heap.objs.size f cdv))) :
    DSs (cxOf (L2.CX P wd) P wd K mg base ["state", "base", "most", "way", "least", "top", "text", "k"] "_law_condition" (defScope (top 48)) f cdv A outer s H E) (defBody (top 48)) w__law_condition := by
  have S := sc__law_condition
  exact (dss_cons (ds_par (i := 3) (j := 4) rfl S.nd rfl rfl (by decide) rfl rfl (da_cons (de_fn h__law_draw hr (by decide) rfl (da_cons (de_var (i := 0) rfl (.inl rfl)) (da_cons (de_int) da_nil))) (da_cons (de_bin bop_add (de_int) (de_fn h__law_draw hr (by decide) rfl (da_cons (de_var (i := 0) rfl (.inl rfl)) (da_cons (de_var (i := 2) rfl (.inl rfl)) da_nil)))) da_nil)) (by rfl))
    (dss_cons (ds_set (i := 5) S.nd rfl (.inl rfl) (de_at hr.units1 (de_lst (da_cons (de_non) (da_cons (de_bin bop_add (de_var (i := 4) rfl (.inl rfl)) (de_fn h__law_draw hr (by decide) rfl (da_cons (de_var (i := 0) rfl (.inl rfl)) (da_cons (de_bin bop_add (de_bin bop_sub (de_var (i := 2) rfl (.inl rfl)) (de_var (i := 4) rfl (.inl rfl))) (de_int)) da_nil)))) da_nil))) (de_fn h__law_draw hr (by decide) rfl (da_cons (de_var (i := 0) rfl (.inl rfl)) (da_cons (de_int) da_nil))) (fun _ _ => rfl)))
    (dss_cons (ds_if (dt_cmp (bop_eq hr.units) (de_var (i := 3) rfl (.inl rfl)) (de_int) (nomark _)) (dss_cons (ds_set (i := 6) S.nd rfl (.inl rfl) (de_str))
    (dss_cons (ds_for (passes_of rfl) rfl (di_range1 rfl m_range (da_cons (de_bin bop_add (de_int) (de_fn h__law_draw hr (by decide) rfl (da_cons (de_var (i := 0) rfl (.inl rfl)) (da_cons (de_callB (cal_min2 rfl) rfl m_min (by decide +kernel) (da_cons (de_int) (da_cons (de_var (i := 2) rfl (.inl rfl)) da_nil))) da_nil)))) da_nil)) (dg_name (i := 7) S.nd rfl (.inl rfl)) (dss_one (ds_set (i := 6) S.nd rfl (.inl rfl) (de_bin bop_add (de_var (i := 6) rfl (.inl rfl)) (de_at hr.units1 (de_str) (de_fn h__law_draw hr (by decide) rfl (da_cons (de_var (i := 0) rfl (.inl rfl)) (da_cons (de_var (i := 1) rfl (.inl rfl)) da_nil))) (fun _ _ => rfl))))))
    (dss_one (ds_ret (de_tup (da_cons (de_str) (da_cons (de_var (i := 6) rfl (.inl rfl)) da_nil))))))) dss_nil)
    (dss_cons (ds_if (dt_cmp (bop_eq hr.units) (de_var (i := 3) rfl (.inl rfl)) (de_int) (nomark _)) (dss_one (ds_ret (de_tup (da_cons (de_str) (da_cons (de_bin bop_sub (de_var (i := 4) rfl (.inl rfl)) (de_fn h__law_draw hr (by decide) rfl (da_cons (de_var (i := 0) rfl (.inl rfl)) (da_cons (de_int) da_nil)))) da_nil))))) dss_nil)
    (dss_one (ds_ret (de_tup (da_cons (de_at hr.units1 (de_lst (da_cons (de_str) (da_cons (de_str) da_nil))) (de_bin bop_sub (de_var (i := 3) rfl (.inl rfl)) (de_int)) (fun _ _ => rfl)) (da_cons (de_var (i := 4) rfl (.inl rfl)) (da_cons (de_var (i := 5) rfl (.inl rfl)) da_nil))))))))))
theorem sc__law_keep : FnScope ["state", "most", "word", "size"] ["state", "most"] (defScope (top 49)) := ⟨rfl, rfl, rfl, by decide +kernel, rfl, by decide +kernel, by decide +kernel⟩
theorem d__law_keep (h__law_draw : Has P wd K mg base "_law_draw" 2 sp__law_draw) {f : Addr} {cdv : Value} {A : Around} {outer : List Env} {s : Shared} {H : Hp} {E : XK} (hr : RoomG 2 (A.deeper (envOfC "_law_keep" (defScope (top 49)) s.heap.objs.size f cdv))) :
    DSs (cxOf (L2.CX P wd) P wd K mg base ["state", "most", "word", "size"] "_law_keep" (defScope (top 49)) f cdv A outer s H E) (defBody (top 49)) w__law_keep := by
  have S := sc__law_keep
  exact (dss_cons (ds_par (i := 2) (j := 3) rfl S.nd rfl rfl (by decide) rfl rfl (da_cons (de_at hr.units1 (de_lst (da_cons (de_str) (da_cons (de_str) (da_cons (de_str) (da_cons (de_str) da_nil))))) (de_fn h__law_draw hr (by decide) rfl (da_cons (de_var (i := 0) rfl (.inl rfl)) (da_cons (de_int) da_nil))) (fun _ _ => rfl)) (da_cons (de_bin bop_add (de_int) (de_fn h__law_draw hr (by decide) rfl (da_cons (de_var (i := 0) rfl (.inl rfl)) (da_cons (de_var (i := 1) rfl (.inl rfl)) da_nil)))) da_nil)) (by rfl))
    (dss_one (ds_ret (de_if (dt_cmp (bop_eq hr.units) (de_var (i := 2) rfl (.inl rfl)) (de_str) (nomark _)) (de_tup (da_cons (de_var (i := 2) rfl (.inl rfl)) da_nil)) (de_tup (da_cons (de_var (i := 2) rfl (.inl rfl)) (da_cons (de_var (i := 3) rfl (.inl rfl)) da_nil)))))))
theorem sc__law_rules : FnScope ["state", "base", "most", "many", "found", "k", "some", "j"] ["state", "base", "most", "many"] (defScope (top 50)) := ⟨rfl, rfl, rfl, by decide +kernel, rfl, by decide +kernel, by decide +kernel⟩
theorem d__law_rules (h__law_condition : Has P wd K mg base "_law_condition" 3 sp__law_condition) (h__law_draw : Has P wd K mg base "_law_draw" 2 sp__law_draw) (h__law_keep : Has P wd K mg base "_law_keep" 3 sp__law_keep) (m_range : mg "range" = none) (m_tuple : mg "tuple" = none) {f : Addr} {cdv : Value} {A : Around} {outer : List Env} {s : Shared} {H : Hp} {E : XK} (hr : RoomG 3 (A.deeper (envOfC "_law_rules" (defScope (top 50)) s.heap.objs.size f cdv))) :
    DSs (cxOf (L2.CX P wd) P wd K mg base ["state", "base", "most", "many", "found", "k", "some", "j"] "_law_rules" (defScope (top 50)) f cdv A outer s H E) (defBody (top 50)) w__law_rules := by
  have S := sc__law_rules
  exact (dss_cons (ds_set (i := 4) S.nd rfl (.inl rfl) (de_lst da_nil))
    (dss_cons (ds_for (passes_of rfl) rfl (di_range1 rfl m_range (da_cons (de_fn h__law_draw hr (by decide) rfl (da_cons (de_var (i := 0) rfl (.inr (.inl rfl))) (da_cons (de_bin bop_add (de_var (i := 3) rfl (.inl rfl)) (de_int)) da_nil))) da_nil)) (dg_name (i := 5) S.nd rfl (.inl rfl)) (dss_cons (ds_set (i := 6) S.nd rfl (.inl rfl) (de_callTy (cal_tuple) rfl m_tuple (by decide +kernel) (da_cons (de_lc rfl S.nd (by exact (di_range1 rfl m_range (da_cons (de_at hr.units1 (de_lst (da_cons (de_int) (da_cons (de_int) (da_cons (de_int) (da_cons (de_int) (da_cons (de_int) (da_cons (de_int) (da_cons (de_int) da_nil)))))))) (de_fn h__law_draw hr (by decide) rfl (da_cons (de_var (i := 0) rfl (.inr (.inl rfl))) (da_cons (de_int) da_nil))) (fun _ _ => rfl)) da_nil))) (blkOk_by (own := [("j", 7)]) (by kernel_rfl)) (fun _ _ _ _ _ => (pg_name (i := 7) S.nd rfl (.inl rfl))) tgd_name (fun _ _ _ _ _ => dts_nil) (fun _ _ _ _ _ => (de_fn h__law_condition hr (by decide) rfl (da_cons (de_var (i := 0) rfl (.inr (.inl rfl))) (da_cons (de_var (i := 1) rfl (.inr (.inl rfl))) (da_cons (de_var (i := 2) rfl (.inr (.inl rfl))) da_nil)))))) da_nil)))
    (dss_one (ds_expr (de_met PySem.F.plainAttrs_list PySem.F.slot_list_append PySem.F.type_list_append met_append (de_var (i := 4) rfl (.inl rfl)) (da_cons (de_tup (da_cons (de_var (i := 6) rfl (.inl rfl)) (da_cons (de_fn h__law_keep hr (by decide) rfl (da_cons (de_var (i := 0) rfl (.inr (.inl rfl))) (da_cons (de_var (i := 2) rfl (.inr (.inl rfl))) da_nil))) da_nil))) da_nil))))))
    (dss_one (ds_ret (de_bin bop_add (de_callTy (cal_tuple) rfl m_tuple (by decide +kernel) (da_cons (de_var (i := 4) rfl (.inl rfl)) da_nil)) (de_tup (da_cons (de_tup (da_cons (de_tup da_nil) (da_cons (de_fn h__law_keep hr (by decide) rfl (da_cons (de_var (i := 0) rfl (.inr (.inl rfl))) (da_cons (de_var (i := 2) rfl (.inr (.inl rfl))) da_nil))) da_nil))) da_nil)))))))
theorem sc__law_of : FnScope ["state", "some"] ["state", "some"] (defScope (top 46)) := ⟨rfl, rfl, rfl, by decide +kernel, rfl, by decide +kernel, by decide +kernel⟩
theorem d__law_of (h__law_draw : Has P wd K mg base "_law_draw" 2 sp__law_draw) (m_len : mg "len" = none) {f : Addr} {cdv : Value} {A : Around} {outer : List Env} {s : Shared} {H : Hp} {E : XK} (hr : RoomG 2 (A.deeper (envOfC "_law_of" (defScope (top 46)) s.heap.objs.size f cdv))) :
    DSs (cxOf (L2.CX P wd) P wd K mg base ["state", "some"] "_law_of" (defScope (top 46)) f cdv A outer s H E) (defBody (top 46)) w__law_of := by
  have S := sc__law_of
  exact (dss_one (ds_ret (de_at hr.units1 (de_var (i := 1) rfl (.inl rfl)) (de_fn h__law_draw hr (by decide) rfl (da_cons (de_var (i := 0) rfl (.inl rfl)) (da_cons (de_callB (cal_len) rfl m_len (by decide +kernel) (da_cons (de_var (i := 1) rfl (.inl rfl)) da_nil)) da_nil))) (fun _ _ => rfl))))
theorem sc__law_row : FnScope ["state", "base", "odd", "rules", "way", "k", "at", "thing"] ["state", "base", "odd"] (defScope (top 52)) := ⟨rfl, rfl, rfl, by decide +kernel, rfl, by decide +kernel, by decide +kernel⟩
theorem d__law_row (h__law_draw : Has P wd K mg base "_law_draw" 2 sp__law_draw) (h__law_of : Has P wd K mg base "_law_of" 3 sp__law_of) (h__law_rules : Has P wd K mg base "_law_rules" 4 sp__law_rules) (m_len : mg "len" = none) (m_range : mg "range" = none) {f : Addr} {cdv : Value} {A : Around} {outer : List Env} {s : Shared} {H : Hp} {E : XK} (hr : RoomG 4 (A.deeper (envOfC "_law_row" (defScope (top 52)) s.heap.objs.size f cdv))) :
    DSs (cxOf (L2.CX P wd) P wd K mg base ["state", "base", "odd", "rules", "way", "k", "at", "thing"] "_law_row" (defScope (top 52)) f cdv A outer s H E) (defBody (top 52)) w__law_row := by
  have S := sc__law_row
  exact (dss_cons (ds_par (i := 3) (j := 4) rfl S.nd rfl rfl (by decide) rfl rfl (da_cons (de_fn h__law_rules hr (by decide) rfl (da_cons (de_var (i := 0) rfl (.inl rfl)) (da_cons (de_var (i := 1) rfl (.inl rfl)) (da_cons (de_int) (da_cons (de_int) da_nil))))) (da_cons (de_fn h__law_draw hr (by decide) rfl (da_cons (de_var (i := 0) rfl (.inl rfl)) (da_cons (de_int) da_nil))) da_nil)) (by rfl))
    (dss_cons (ds_if (dt_cmp (bop_eq hr.units) (de_var (i := 4) rfl (.inl rfl)) (de_int) (nomark _)) (dss_one (ds_set (i := 3) S.nd rfl (.inl rfl) (de_slice (de_bin bop_add (de_var (i := 3) rfl (.inl rfl)) (de_fn h__law_rules hr (by decide) rfl (da_cons (de_var (i := 0) rfl (.inl rfl)) (da_cons (de_var (i := 1) rfl (.inl rfl)) (da_cons (de_int) (da_cons (de_int) da_nil)))))) do_none (do_some (de_fn h__law_draw hr (by decide) rfl (da_cons (de_var (i := 0) rfl (.inl rfl)) (da_cons (de_int) da_nil))))))) dss_nil)
    (dss_cons (ds_if (dt_cmp (bop_eq hr.units) (de_var (i := 4) rfl (.inl rfl)) (de_int) (nomark _)) (dss_one (ds_set (i := 3) S.nd rfl (.inl rfl) (de_bin bop_add (de_var (i := 3) rfl (.inl rfl)) (de_tup (da_cons (de_tup (da_cons (de_tup (da_cons (de_tup (da_cons (de_str) (da_cons (de_int) da_nil))) da_nil)) (da_cons (de_tup (da_cons (de_str) da_nil)) da_nil))) da_nil))))) dss_nil)
    (dss_cons (ds_for (passes_of rfl) rfl (di_range1 rfl m_range (da_cons (de_at hr.units1 (de_lst (da_cons (de_int) (da_cons (de_int) (da_cons (de_int) da_nil)))) (de_fn h__law_draw hr (by decide) rfl (da_cons (de_var (i := 0) rfl (.inl rfl)) (da_cons (de_int) da_nil))) (fun _ _ => rfl)) da_nil)) (dg_name (i := 5) S.nd rfl (.inl rfl)) (dss_cons (ds_par (i := 6) (j := 7) rfl S.nd rfl rfl (by decide) rfl rfl (da_cons (de_fn h__law_draw hr (by decide) rfl (da_cons (de_var (i := 0) rfl (.inl rfl)) (da_cons (de_bin bop_add (de_callB (cal_len) rfl m_len (by decide +kernel) (da_cons (de_var (i := 3) rfl (.inl rfl)) da_nil)) (de_int)) da_nil))) (da_cons (de_fn h__law_of hr (by decide) rfl (da_cons (de_var (i := 0) rfl (.inl rfl)) (da_cons (de_var (i := 2) rfl (.inl rfl)) da_nil))) da_nil)) (by rfl))
    (dss_one (ds_set (i := 3) S.nd rfl (.inl rfl) (de_bin bop_add (de_bin bop_add (de_slice (de_var (i := 3) rfl (.inl rfl)) do_none (do_some (de_var (i := 6) rfl (.inl rfl)))) (de_tup (da_cons (de_var (i := 7) rfl (.inl rfl)) da_nil))) (de_slice (de_var (i := 3) rfl (.inl rfl)) (do_some (de_bin bop_add (de_var (i := 6) rfl (.inl rfl)) (de_fn h__law_draw hr (by decide) rfl (da_cons (de_var (i := 0) rfl (.inl rfl)) (da_cons (de_int) da_nil))))) do_none))))))
    (dss_one (ds_ret (de_var (i := 3) rfl (.inl rfl))))))))
theorem sc__law_due : FnScope ["rules", "odd", "wrong", "k"] ["rules", "odd"] (defScope (top 51)) := ⟨rfl, rfl, rfl, by decide +kernel, rfl, by decide +kernel, by decide +kernel⟩
theorem d__law_due (SM : SmK K) (m_len : mg "len" = none) (m_range : mg "range" = none) (m_repr : mg "repr" = none) {f : Addr} {cdv : Value} {A : Around} {outer : List Env} {s : Shared} {H : Hp} {E : XK} (hr : RoomG 0 (A.deeper (envOfC "_law_due" (defScope (top 51)) s.heap.objs.size f cdv))) :
    DSs (cxOf (L2.CX P wd) P wd K mg base ["rules", "odd", "wrong", "k"] "_law_due" (defScope (top 51)) f cdv A outer s H E) (defBody (top 51)) w__law_due := by
  have S := sc__law_due
  exact (dss_cons (ds_if (dt_not (dt_chain bop_le bop_le (de_int) (de_callB (cal_len) rfl m_len (by decide +kernel) (da_cons (de_var (i := 0) rfl (.inr (.inl rfl))) da_nil)) (de_int))) (dss_one (ds_ret (de_lst (da_cons (de_non) da_nil)))) dss_nil)
    (dss_cons (ds_setLc (i := 2) rfl S.nd rfl rfl (sw_true rfl rfl rfl (by decide +kernel)) (by exact (di_range1 rfl m_range (da_cons (de_callB (cal_len) rfl m_len (by decide +kernel) (da_cons (de_var (i := 0) rfl (.inr (.inl rfl))) da_nil)) da_nil))) (blkOk_by (own := [("k", 3)]) (by kernel_rfl)) (fun _ _ _ _ _ => (pg_name (i := 3) S.nd rfl (.inl rfl))) tgd_name (fun _ _ _ _ _ => (dts_one (dt_cmp bop_in (de_callB (cal_repr SM hr.gd hr.u65) rfl m_repr (by decide +kernel) (da_cons (de_at hr.units1 (de_var (i := 0) rfl (.inr (.inl rfl))) (de_var (i := 3) rfl (.inl rfl)) (fun _ _ => rfl)) da_nil)) (de_var (i := 1) rfl (.inr (.inl rfl))) (by rfl)))) (fun _ _ _ _ _ => (de_var (i := 3) rfl (.inl rfl))))
    (dss_cons (ds_if (dt_cmp (bop_ne hr.units) (de_var (i := 2) rfl (.inl rfl)) (de_lst da_nil) (nomark _)) (dss_one (ds_ret (de_slice (de_var (i := 2) rfl (.inl rfl)) do_none (do_some (de_int))))) dss_nil)
    (dss_one (ds_ret (de_if (dt_cmp (bop_eq hr.units) (de_at hr.units1 (de_at hr.units1 (de_var (i := 0) rfl (.inr (.inl rfl))) (de_neg (de_int)) (fun _ _ => rfl)) (de_int) (fun _ _ => rfl)) (de_tup da_nil) (nomark _)) (de_lst da_nil) (de_lst (da_cons (de_bin bop_sub (de_callB (cal_len) rfl m_len (by decide +kernel) (da_cons (de_var (i := 0) rfl (.inr (.inl rfl))) da_nil)) (de_int)) da_nil))))))))
theorem sc__law_raised : FnScope ["asked", "caught", "found", "e"] ["asked"] (defScope (top 47)) := ⟨rfl, rfl, rfl, by decide +kernel, rfl, by decide +kernel, by decide +kernel⟩
theorem d__law_raised (CAT : CatK K rCs ["SpanError", "TooMany", "Missing", "NothingLeft"]) (KIN : KinKs K rCs rDs) (XF_line : XfK K ["BadText"] "line") (XF_most : XfK K [] "most") (XF_name : XfK K [] "name") (XF_place : XfK K ["BadRule", "BadEntry"] "place") (XF_value : XfK K rVs "value") (XF_word : XfK K ["BadText"] "word") (gc_BadBase : mg "BadBase" = some (.ref (He.ga K "BadBase"))) (gc_BadDigits : mg "BadDigits" = some (.ref (He.ga K "BadDigits"))) (gc_BadEntry : mg "BadEntry" = some (.ref (He.ga K "BadEntry"))) (gc_BadManner : mg "BadManner" = some (.ref (He.ga K "BadManner"))) (gc_BadName : mg "BadName" = some (.ref (He.ga K "BadName"))) (gc_BadNumber : mg "BadNumber" = some (.ref (He.ga K "BadNumber"))) (gc_BadRange : mg "BadRange" = some (.ref (He.ga K "BadRange"))) (gc_BadReader : mg "BadReader" = some (.ref (He.ga K "BadReader"))) (gc_BadRule : mg "BadRule" = some (.ref (He.ga K "BadRule"))) (gc_BadText : mg "BadText" = some (.ref (He.ga K "BadText"))) (gc_Missing : mg "Missing" = some (.ref (He.ga K "Missing"))) (gc_NothingLeft : mg "NothingLeft" = some (.ref (He.ga K "NothingLeft"))) (gc_OtherBase : mg "OtherBase" = some (.ref (He.ga K "OtherBase"))) (gc_SpanError : mg "SpanError" = some (.ref (He.ga K "SpanError"))) (gc_TooMany : mg "TooMany" = some (.ref (He.ga K "TooMany"))) (m_isinstance : mg "isinstance" = none) (m_len : mg "len" = none) {f : Addr} {cdv : Value} {A : Around} {outer : List Env} {s : Shared} {H : Hp} {wA : WE} (hr : RoomG 0 (A.deeper (envOfC "_law_raised" (defScope (top 47)) s.heap.objs.size f cdv)))
    (hA : ∀ (pn : List (Addr × Obj)) (xe : Value → Shared → Prop) (p1 p2 : Pos), DE ((cxOf C8.CX0 P wd K mg base ["asked", "caught", "found", "e"] "_law_raised" (defScope (top 47)) f cdv A outer s H C8.E0).tr pn xe) (.Call (.Name "asked" p1) [] [] p2) wA) :
    DSs (cxOf C8.CX0 P wd K mg base ["asked", "caught", "found", "e"] "_law_raised" (defScope (top 47)) f cdv A outer s H C8.E0).nox (defBody (top 47)) (w__law_raised wA) := by
  have S := sc__law_raised
  exact (dss_cons (ds_par (i := 1) (j := 2) rfl S.nd rfl rfl (by decide) rfl rfl (da_cons (de_non) (da_cons (de_lst da_nil) da_nil)) (by rfl))
    (dss_cons (ds_try (i := 3) (j := 1) CAT rfl rfl rfl S.nd rfl rfl rfl rfl ⟨rfl, by decide, .inl gc_SpanError⟩ ⟨rfl, by decide, .inl gc_TooMany⟩ ⟨rfl, by decide, .inl gc_Missing⟩ ⟨rfl, by decide, .inl gc_NothingLeft⟩ (fun _ _ => (dss_one (ds_expr (hA _ _ _ _)))) (by decide) (by decide) (by rfl))
    (dss_cons (ds_if (dt_cmp bop_is (de_var (i := 1) rfl (.inl rfl)) (de_non) (nomark _)) (dss_one (ds_ret (de_tup da_nil))) dss_nil)
    (dss_cons (ds_if (dt_val (de_callB (cal_isx KIN) rfl m_isinstance (by decide +kernel) (da_cons (de_var (i := 1) rfl (.inl rfl)) (da_cons (de_gcls rfl gc_BadBase) da_nil)))) (dss_one (ds_expr (de_met PySem.F.plainAttrs_list PySem.F.slot_list_append PySem.F.type_list_append met_append (de_var (i := 2) rfl (.inl rfl)) (da_cons (de_tup (da_cons (de_str) (da_cons (de_xf XF_value (de_var (i := 1) rfl (.inl rfl))) da_nil))) da_nil)))) dss_nil)
    (dss_cons (ds_if (dt_val (de_callB (cal_isx KIN) rfl m_isinstance (by decide +kernel) (da_cons (de_var (i := 1) rfl (.inl rfl)) (da_cons (de_gcls rfl gc_BadNumber) da_nil)))) (dss_one (ds_expr (de_met PySem.F.plainAttrs_list PySem.F.slot_list_append PySem.F.type_list_append met_append (de_var (i := 2) rfl (.inl rfl)) (da_cons (de_tup (da_cons (de_str) (da_cons (de_xf XF_value (de_var (i := 1) rfl (.inl rfl))) da_nil))) da_nil)))) dss_nil)
    (dss_cons (ds_if (dt_val (de_callB (cal_isx KIN) rfl m_isinstance (by decide +kernel) (da_cons (de_var (i := 1) rfl (.inl rfl)) (da_cons (de_gcls rfl gc_BadDigits) da_nil)))) (dss_one (ds_expr (de_met PySem.F.plainAttrs_list PySem.F.slot_list_append PySem.F.type_list_append met_append (de_var (i := 2) rfl (.inl rfl)) (da_cons (de_tup (da_cons (de_str) (da_cons (de_xf XF_value (de_var (i := 1) rfl (.inl rfl))) da_nil))) da_nil)))) dss_nil)
    (dss_cons (ds_if (dt_val (de_callB (cal_isx KIN) rfl m_isinstance (by decide +kernel) (da_cons (de_var (i := 1) rfl (.inl rfl)) (da_cons (de_gcls rfl gc_BadRange) da_nil)))) (dss_one (ds_expr (de_met PySem.F.plainAttrs_list PySem.F.slot_list_append PySem.F.type_list_append met_append (de_var (i := 2) rfl (.inl rfl)) (da_cons (de_tup (da_cons (de_str) (da_cons (de_xf XF_value (de_var (i := 1) rfl (.inl rfl))) da_nil))) da_nil)))) dss_nil)
    (dss_cons (ds_if (dt_val (de_callB (cal_isx KIN) rfl m_isinstance (by decide +kernel) (da_cons (de_var (i := 1) rfl (.inl rfl)) (da_cons (de_gcls rfl gc_BadRule) da_nil)))) (dss_one (ds_expr (de_met PySem.F.plainAttrs_list PySem.F.slot_list_append PySem.F.type_list_append met_append (de_var (i := 2) rfl (.inl rfl)) (da_cons (de_tup (da_cons (de_str) (da_cons (de_xf XF_place (de_var (i := 1) rfl (.inl rfl))) da_nil))) da_nil)))) dss_nil)
    (dss_cons (ds_if (dt_val (de_callB (cal_isx KIN) rfl m_isinstance (by decide +kernel) (da_cons (de_var (i := 1) rfl (.inl rfl)) (da_cons (de_gcls rfl gc_BadReader) da_nil)))) (dss_one (ds_expr (de_met PySem.F.plainAttrs_list PySem.F.slot_list_append PySem.F.type_list_append met_append (de_var (i := 2) rfl (.inl rfl)) (da_cons (de_tup (da_cons (de_str) (da_cons (de_xf XF_value (de_var (i := 1) rfl (.inl rfl))) da_nil))) da_nil)))) dss_nil)
    (dss_cons (ds_if (dt_val (de_callB (cal_isx KIN) rfl m_isinstance (by decide +kernel) (da_cons (de_var (i := 1) rfl (.inl rfl)) (da_cons (de_gcls rfl gc_BadManner) da_nil)))) (dss_one (ds_expr (de_met PySem.F.plainAttrs_list PySem.F.slot_list_append PySem.F.type_list_append met_append (de_var (i := 2) rfl (.inl rfl)) (da_cons (de_tup (da_cons (de_str) (da_cons (de_xf XF_value (de_var (i := 1) rfl (.inl rfl))) da_nil))) da_nil)))) dss_nil)
    (dss_cons (ds_if (dt_val (de_callB (cal_isx KIN) rfl m_isinstance (by decide +kernel) (da_cons (de_var (i := 1) rfl (.inl rfl)) (da_cons (de_gcls rfl gc_BadEntry) da_nil)))) (dss_one (ds_expr (de_met PySem.F.plainAttrs_list PySem.F.slot_list_append PySem.F.type_list_append met_append (de_var (i := 2) rfl (.inl rfl)) (da_cons (de_tup (da_cons (de_str) (da_cons (de_xf XF_place (de_var (i := 1) rfl (.inl rfl))) da_nil))) da_nil)))) dss_nil)
    (dss_cons (ds_if (dt_val (de_callB (cal_isx KIN) rfl m_isinstance (by decide +kernel) (da_cons (de_var (i := 1) rfl (.inl rfl)) (da_cons (de_gcls rfl gc_BadName) da_nil)))) (dss_one (ds_expr (de_met PySem.F.plainAttrs_list PySem.F.slot_list_append PySem.F.type_list_append met_append (de_var (i := 2) rfl (.inl rfl)) (da_cons (de_tup (da_cons (de_str) (da_cons (de_xf XF_value (de_var (i := 1) rfl (.inl rfl))) da_nil))) da_nil)))) dss_nil)
    (dss_cons (ds_if (dt_val (de_callB (cal_isx KIN) rfl m_isinstance (by decide +kernel) (da_cons (de_var (i := 1) rfl (.inl rfl)) (da_cons (de_gcls rfl gc_BadText) da_nil)))) (dss_one (ds_expr (de_met PySem.F.plainAttrs_list PySem.F.slot_list_append PySem.F.type_list_append met_append (de_var (i := 2) rfl (.inl rfl)) (da_cons (de_tup (da_cons (de_str) (da_cons (de_xf XF_line (de_var (i := 1) rfl (.inl rfl))) (da_cons (de_xf XF_word (de_var (i := 1) rfl (.inl rfl))) da_nil)))) da_nil)))) dss_nil)
    (dss_cons (ds_if (dt_val (de_callB (cal_isx KIN) rfl m_isinstance (by decide +kernel) (da_cons (de_var (i := 1) rfl (.inl rfl)) (da_cons (de_gcls rfl gc_OtherBase) da_nil)))) (dss_one (ds_expr (de_met PySem.F.plainAttrs_list PySem.F.slot_list_append PySem.F.type_list_append met_append (de_var (i := 2) rfl (.inl rfl)) (da_cons (de_tup (da_cons (de_str) da_nil)) da_nil)))) dss_nil)
    (dss_cons (ds_if (dt_val (de_callB (cal_isx KIN) rfl m_isinstance (by decide +kernel) (da_cons (de_var (i := 1) rfl (.inl rfl)) (da_cons (de_gcls rfl gc_TooMany) da_nil)))) (dss_one (ds_expr (de_met PySem.F.plainAttrs_list PySem.F.slot_list_append PySem.F.type_list_append met_append (de_var (i := 2) rfl (.inl rfl)) (da_cons (de_tup (da_cons (de_str) (da_cons (de_xf XF_most (de_var (i := 1) rfl (.inl rfl))) da_nil))) da_nil)))) dss_nil)
    (dss_cons (ds_if (dt_val (de_callB (cal_isx KIN) rfl m_isinstance (by decide +kernel) (da_cons (de_var (i := 1) rfl (.inl rfl)) (da_cons (de_gcls rfl gc_Missing) da_nil)))) (dss_one (ds_expr (de_met PySem.F.plainAttrs_list PySem.F.slot_list_append PySem.F.type_list_append met_append (de_var (i := 2) rfl (.inl rfl)) (da_cons (de_tup (da_cons (de_str) (da_cons (de_xf XF_name (de_var (i := 1) rfl (.inl rfl))) da_nil))) da_nil)))) dss_nil)
    (dss_cons (ds_if (dt_val (de_callB (cal_isx KIN) rfl m_isinstance (by decide +kernel) (da_cons (de_var (i := 1) rfl (.inl rfl)) (da_cons (de_gcls rfl gc_NothingLeft) da_nil)))) (dss_one (ds_expr (de_met PySem.F.plainAttrs_list PySem.F.slot_list_append PySem.F.type_list_append met_append (de_var (i := 2) rfl (.inl rfl)) (da_cons (de_tup (da_cons (de_str) da_nil)) da_nil)))) dss_nil)
    (dss_one (ds_ret (de_if (dt_cmp (bop_eq hr.units) (de_callB (cal_len) rfl m_len (by decide +kernel) (da_cons (de_var (i := 2) rfl (.inl rfl)) da_nil)) (de_int) (nomark _)) (de_at hr.units1 (de_var (i := 2) rfl (.inl rfl)) (de_int) (fun _ _ => rfl)) (de_tup (da_cons (de_str) (da_cons (de_callB (cal_len) rfl m_len (by decide +kernel) (da_cons (de_var (i := 2) rfl (.inl rfl)) da_nil)) da_nil)))))))))))))))))))))))
theorem sc_is_among : FnScope ["thing", "least", "most"] ["thing", "least", "most"] (defScope (top 21)) := ⟨rfl, rfl, rfl, by decide +kernel, rfl, by decide +kernel, by decide +kernel⟩
theorem d_is_among (m_bool : mg "bool" = none) (m_int : mg "int" = none) (m_isinstance : mg "isinstance" = none) {f : Addr} {cdv : Value} {A : Around} {outer : List Env} {s : Shared} {H : Hp} {E : XK} (hr : RoomG 0 (A.deeper (envOfC "is_among" (defScope (top 21)) s.heap.objs.size f cdv))) :
    DSs (cxOf (L2.CX P wd) P wd K mg base ["thing", "least", "most"] "is_among" (defScope (top 21)) f cdv A outer s H E) (defBody (top 21)) w_is_among := by
  have S := sc_is_among
  exact (dss_one (ds_ret ((de_and (de_callB (cal_isi) rfl m_isinstance (by decide +kernel) (da_cons (de_var (i := 0) rfl (.inl rfl)) (da_cons (de_gty rfl m_int (by decide +kernel)) da_nil))) (de_and (de_not (de_callB (cal_isi) rfl m_isinstance (by decide +kernel) (da_cons (de_var (i := 0) rfl (.inl rfl)) (da_cons (de_gty rfl m_bool (by decide +kernel)) da_nil)))) (de_one (de_chain bop_le bop_le (de_var (i := 1) rfl (.inl rfl)) (de_var (i := 0) rfl (.inl rfl)) (de_var (i := 2) rfl (.inl rfl)))))))))
theorem sc_need_base : FnScope ["thing"] ["thing"] (defScope (top 23)) := ⟨rfl, rfl, rfl, by decide +kernel, rfl, by decide +kernel, by decide +kernel⟩
theorem d_need_base (g_LEAST_BASE : ∃ t, mg "LEAST_BASE" = some (.int 2 t)) (g_MOST_BASE : ∃ t, mg "MOST_BASE" = some (.int 10 t)) (h_is_among : Has P wd K mg base "is_among" 1 sp_is_among) (x_BadBase : ExcI P wd K mg base "BadBase" ["value"]) {f : Addr} {cdv : Value} {A : Around} {outer : List Env} {s : Shared} {H : Hp} {E : XK} (hr : RoomG 2 (A.deeper (envOfC "need_base" (defScope (top 23)) s.heap.objs.size f cdv))) :
    DSs (cxOf (L2.CX P wd) P wd K mg base ["thing"] "need_base" (defScope (top 23)) f cdv A outer s H E) (defBody (top 23)) w_need_base := by
  have S := sc_need_base
  exact (dss_one (ds_if (dt_not (dt_val (de_fn h_is_among hr (by decide) rfl (da_cons (de_var (i := 0) rfl (.inl rfl)) (da_cons (de_gint rfl g_LEAST_BASE) (da_cons (de_gint rfl g_MOST_BASE) da_nil)))))) (dss_one (ds_raise x_BadBase hr (by decide) rfl rfl (by simp) (da_cons (de_var (i := 0) rfl (.inl rfl)) da_nil))) dss_nil))
theorem sc_are_digits : FnScope ["base", "thing", "sign"] ["base", "thing"] (defScope (top 26)) := ⟨rfl, rfl, rfl, by decide +kernel, rfl, by decide +kernel, by decide +kernel⟩
theorem d_are_digits (g_FIGURES : ∃ t, mg "FIGURES" = some (.str "0123456789" t)) (m_all : mg "all" = none) (m_isinstance : mg "isinstance" = none) (m_str : mg "str" = none) {f : Addr} {cdv : Value} {A : Around} {outer : List Env} {s : Shared} {H : Hp} {E : XK} (hr : RoomG 0 (A.deeper (envOfC "are_digits" (defScope (top 26)) s.heap.objs.size f cdv))) :
    DSs (cxOf (L2.CX P wd) P wd K mg base ["base", "thing", "sign"] "are_digits" (defScope (top 26)) f cdv A outer s H E) (defBody (top 26)) w_are_digits := by
  have S := sc_are_digits
  exact (dss_one (ds_ret ((de_and (de_callB (cal_isi) rfl m_isinstance (by decide +kernel) (da_cons (de_var (i := 1) rfl (.inl rfl)) (da_cons (de_gty rfl m_str (by decide +kernel)) da_nil))) (de_and (de_cmp (bop_ne hr.units) (de_var (i := 1) rfl (.inl rfl)) (de_str) (nomark _)) (de_one (de_callB (cal_all rfl) rfl m_all (by decide +kernel) (da_cons (de_lc rfl S.nd (by exact (di_val (de_var (i := 1) rfl (.inl rfl)))) (blkOk_by (own := [("sign", 2)]) (by kernel_rfl)) (fun _ _ _ _ _ => (pg_name (i := 2) S.nd rfl (.inl rfl))) tgd_name (fun _ _ _ _ _ => dts_nil) (fun _ _ _ _ _ => (de_cmp bop_in (de_var (i := 2) rfl (.inl rfl)) (de_slice (de_gstr rfl g_FIGURES) do_none (do_some (de_var (i := 0) rfl (.inr (.inl rfl))))) (by rfl)))) da_nil))))))))
theorem sc_is_condition : FnScope ["base", "thing"] ["base", "thing"] (defScope (top 35)) := ⟨rfl, rfl, rfl, by decide +kernel, rfl, by decide +kernel, by decide +kernel⟩
theorem d_is_condition (g_MOST_ENDING : ∃ t, mg "MOST_ENDING" = some (.int 2 t)) (g_MOST_SIZE : ∃ t, mg "MOST_SIZE" = some (.int 6 t)) (h_are_digits : Has P wd K mg base "are_digits" 1 sp_are_digits) (h_is_among : Has P wd K mg base "is_among" 1 sp_is_among) (m_isinstance : mg "isinstance" = none) (m_len : mg "len" = none) (m_str : mg "str" = none) (m_tuple : mg "tuple" = none) {f : Addr} {cdv : Value} {A : Around} {outer : List Env} {s : Shared} {H : Hp} {E : XK} (hr : RoomG 1 (A.deeper (envOfC "is_condition" (defScope (top 35)) s.heap.objs.size f cdv))) :
    DSs (cxOf (L2.CX P wd) P wd K mg base ["base", "thing"] "is_condition" (defScope (top 35)) f cdv A outer s H E) (defBody (top 35)) w_is_condition := by
  have S := sc_is_condition
  exact (dss_cons (ds_if (DWt.dt (dw_or (dt_not (dt_val (de_callB (cal_isi) rfl m_isinstance (by decide +kernel) (da_cons (de_var (i := 1) rfl (.inl rfl)) (da_cons (de_gty rfl m_tuple (by decide +kernel)) da_nil))))) (dw_or (dt_not (dt_chain bop_le bop_le (de_int) (de_callB (cal_len) rfl m_len (by decide +kernel) (da_cons (de_var (i := 1) rfl (.inl rfl)) da_nil)) (de_int))) (dw_or1 (dt_not (dt_val (de_callB (cal_isi) rfl m_isinstance (by decide +kernel) (da_cons (de_at hr.units1 (de_var (i := 1) rfl (.inl rfl)) (de_int) (fun _ _ => rfl)) (da_cons (de_gty rfl m_str (by decide +kernel)) da_nil))))))))) (dss_one (ds_ret (de_bl))) dss_nil)
    (dss_cons (ds_if (dt_cmp (bop_eq hr.units) (de_at hr.units1 (de_var (i := 1) rfl (.inl rfl)) (de_int) (fun _ _ => rfl)) (de_str) (nomark _)) (dss_one (ds_ret ((de_and (de_cmp (bop_eq hr.units) (de_callB (cal_len) rfl m_len (by decide +kernel) (da_cons (de_var (i := 1) rfl (.inl rfl)) da_nil)) (de_int) (nomark _)) (de_and (de_fn h_are_digits hr (by decide) rfl (da_cons (de_var (i := 0) rfl (.inl rfl)) (da_cons (de_at hr.units1 (de_var (i := 1) rfl (.inl rfl)) (de_int) (fun _ _ => rfl)) da_nil))) (de_one (de_cmp bop_le (de_callB (cal_len) rfl m_len (by decide +kernel) (da_cons (de_at hr.units1 (de_var (i := 1) rfl (.inl rfl)) (de_int) (fun _ _ => rfl)) da_nil)) (de_gint rfl g_MOST_ENDING) (nomark _)))))))) dss_nil)
    (dss_cons (ds_if (dt_cmp (bop_eq hr.units) (de_at hr.units1 (de_var (i := 1) rfl (.inl rfl)) (de_int) (fun _ _ => rfl)) (de_str) (nomark _)) (dss_one (ds_ret ((de_and (de_cmp (bop_eq hr.units) (de_callB (cal_len) rfl m_len (by decide +kernel) (da_cons (de_var (i := 1) rfl (.inl rfl)) da_nil)) (de_int) (nomark _)) (de_one (de_fn h_is_among hr (by decide) rfl (da_cons (de_at hr.units1 (de_var (i := 1) rfl (.inl rfl)) (de_int) (fun _ _ => rfl)) (da_cons (de_int) (da_cons (de_gint rfl g_MOST_SIZE) da_nil))))))))) dss_nil)
    (dss_cons (ds_if (DWt.dt (dw_or (dt_cmp bop_notin (de_at hr.units1 (de_var (i := 1) rfl (.inl rfl)) (de_int) (fun _ _ => rfl)) (de_tup (da_cons (de_str) (da_cons (de_str) da_nil))) (by rfl)) (dw_or (dt_cmp (bop_ne hr.units) (de_callB (cal_len) rfl m_len (by decide +kernel) (da_cons (de_var (i := 1) rfl (.inl rfl)) da_nil)) (de_int) (nomark _)) (dw_or1 (dt_not (dt_val (de_fn h_is_among hr (by decide) rfl (da_cons (de_at hr.units1 (de_var (i := 1) rfl (.inl rfl)) (de_int) (fun _ _ => rfl)) (da_cons (de_int) (da_cons (de_gint rfl g_MOST_SIZE) da_nil)))))))))) (dss_one (ds_ret (de_bl))) dss_nil)
    (dss_one (ds_ret ((de_or (de_cmp bop_is (de_at hr.units1 (de_var (i := 1) rfl (.inl rfl)) (de_int) (fun _ _ => rfl)) (de_non) (nomark _)) (de_one (de_fn h_is_among hr (by decide) rfl (da_cons (de_at hr.units1 (de_var (i := 1) rfl (.inl rfl)) (de_int) (fun _ _ => rfl)) (da_cons (de_at hr.units1 (de_var (i := 1) rfl (.inl rfl)) (de_int) (fun _ _ => rfl)) (da_cons (de_gint rfl g_MOST_SIZE) da_nil)))))))))))))
theorem sc_is_keep : FnScope ["thing"] ["thing"] (defScope (top 36)) := ⟨rfl, rfl, rfl, by decide +kernel, rfl, by decide +kernel, by decide +kernel⟩
theorem d_is_keep (g_MOST_SIZE : ∃ t, mg "MOST_SIZE" = some (.int 6 t)) (h_is_among : Has P wd K mg base "is_among" 1 sp_is_among) (m_isinstance : mg "isinstance" = none) (m_len : mg "len" = none) (m_str : mg "str" = none) (m_tuple : mg "tuple" = none) {f : Addr} {cdv : Value} {A : Around} {outer : List Env} {s : Shared} {H : Hp} {E : XK} (hr : RoomG 1 (A.deeper (envOfC "is_keep" (defScope (top 36)) s.heap.objs.size f cdv))) :
    DSs (cxOf (L2.CX P wd) P wd K mg base ["thing"] "is_keep" (defScope (top 36)) f cdv A outer s H E) (defBody (top 36)) w_is_keep := by
  have S := sc_is_keep
  exact (dss_cons (ds_if (DWt.dt (dw_or (dt_not (dt_val (de_callB (cal_isi) rfl m_isinstance (by decide +kernel) (da_cons (de_var (i := 0) rfl (.inl rfl)) (da_cons (de_gty rfl m_tuple (by decide +kernel)) da_nil))))) (dw_or (dt_cmp (bop_eq hr.units) (de_callB (cal_len) rfl m_len (by decide +kernel) (da_cons (de_var (i := 0) rfl (.inl rfl)) da_nil)) (de_int) (nomark _)) (dw_or1 (dt_not (dt_val (de_callB (cal_isi) rfl m_isinstance (by decide +kernel) (da_cons (de_at hr.units1 (de_var (i := 0) rfl (.inl rfl)) (de_int) (fun _ _ => rfl)) (da_cons (de_gty rfl m_str (by decide +kernel)) da_nil))))))))) (dss_one (ds_ret (de_bl))) dss_nil)
    (dss_cons (ds_if (dt_cmp (bop_eq hr.units) (de_at hr.units1 (de_var (i := 0) rfl (.inl rfl)) (de_int) (fun _ _ => rfl)) (de_str) (nomark _)) (dss_one (ds_ret (de_cmp (bop_eq hr.units) (de_callB (cal_len) rfl m_len (by decide +kernel) (da_cons (de_var (i := 0) rfl (.inl rfl)) da_nil)) (de_int) (nomark _)))) dss_nil)
    (dss_one (ds_ret ((de_and (de_cmp bop_in (de_at hr.units1 (de_var (i := 0) rfl (.inl rfl)) (de_int) (fun _ _ => rfl)) (de_tup (da_cons (de_str) (da_cons (de_str) da_nil))) (by rfl)) (de_and (de_cmp (bop_eq hr.units) (de_callB (cal_len) rfl m_len (by decide +kernel) (da_cons (de_var (i := 0) rfl (.inl rfl)) da_nil)) (de_int) (nomark _)) (de_one (de_fn h_is_among hr (by decide) rfl (da_cons (de_at hr.units1 (de_var (i := 0) rfl (.inl rfl)) (de_int) (fun _ _ => rfl)) (da_cons (de_int) (da_cons (de_gint rfl g_MOST_SIZE) da_nil))))))))))))
theorem sc_is_rule_in : FnScope ["base", "thing", "condition"] ["base", "thing"] (defScope (top 37)) := ⟨rfl, rfl, rfl, by decide +kernel, rfl, by decide +kernel, by decide +kernel⟩
theorem d_is_rule_in (g_MOST_CONDITIONS : ∃ t, mg "MOST_CONDITIONS" = some (.int 3 t)) (h_is_condition : Has P wd K mg base "is_condition" 2 sp_is_condition) (h_is_keep : Has P wd K mg base "is_keep" 2 sp_is_keep) (m_all : mg "all" = none) (m_isinstance : mg "isinstance" = none) (m_len : mg "len" = none) (m_tuple : mg "tuple" = none) {f : Addr} {cdv : Value} {A : Around} {outer : List Env} {s : Shared} {H : Hp} {E : XK} (hr : RoomG 2 (A.deeper (envOfC "is_rule_in" (defScope (top 37)) s.heap.objs.size f cdv))) :
    DSs (cxOf (L2.CX P wd) P wd K mg base ["base", "thing", "condition"] "is_rule_in" (defScope (top 37)) f cdv A outer s H E) (defBody (top 37)) w_is_rule_in := by
  have S := sc_is_rule_in
  exact (dss_cons (ds_if (DWt.dt (dw_or (dt_not (dt_val (de_callB (cal_isi) rfl m_isinstance (by decide +kernel) (da_cons (de_var (i := 1) rfl (.inl rfl)) (da_cons (de_gty rfl m_tuple (by decide +kernel)) da_nil))))) (dw_or (dt_cmp (bop_ne hr.units) (de_callB (cal_len) rfl m_len (by decide +kernel) (da_cons (de_var (i := 1) rfl (.inl rfl)) da_nil)) (de_int) (nomark _)) (dw_or1 (dt_not (dt_val (de_callB (cal_isi) rfl m_isinstance (by decide +kernel) (da_cons (de_at hr.units1 (de_var (i := 1) rfl (.inl rfl)) (de_int) (fun _ _ => rfl)) (da_cons (de_gty rfl m_tuple (by decide +kernel)) da_nil))))))))) (dss_one (ds_ret (de_bl))) dss_nil)
    (dss_cons (ds_if (DWt.dt (dw_or (dt_cmp bop_gt (de_callB (cal_len) rfl m_len (by decide +kernel) (da_cons (de_at hr.units1 (de_var (i := 1) rfl (.inl rfl)) (de_int) (fun _ _ => rfl)) da_nil)) (de_gint rfl g_MOST_CONDITIONS) (nomark _)) (dw_or1 (dt_not (dt_val (de_callB (cal_all rfl) rfl m_all (by decide +kernel) (da_cons (de_lc rfl S.nd (by exact (di_val (de_at hr.units1 (de_var (i := 1) rfl (.inl rfl)) (de_int) (fun _ _ => rfl)))) (blkOk_by (own := [("condition", 2)]) (by kernel_rfl)) (fun _ _ _ _ _ => (pg_name (i := 2) S.nd rfl (.inl rfl))) tgd_name (fun _ _ _ _ _ => dts_nil) (fun _ _ _ _ _ => (de_fn h_is_condition hr (by decide) rfl (da_cons (de_var (i := 0) rfl (.inr (.inl rfl))) (da_cons (de_var (i := 2) rfl (.inl rfl)) da_nil))))) da_nil))))))) (dss_one (ds_ret (de_bl))) dss_nil)
    (dss_one (ds_ret (de_fn h_is_keep hr (by decide) rfl (da_cons (de_at hr.units1 (de_var (i := 1) rfl (.inl rfl)) (de_int) (fun _ _ => rfl)) da_nil))))))
theorem sc_Style___init__ : FnScope ["self", "base", "rules", "number", "rule"] ((["self", "base"] : List Str) ++ (["rules"] : List Str)) (defScope (meth 41 0)) := ⟨rfl, rfl, rfl, by decide +kernel, rfl, by decide +kernel, by decide +kernel⟩
theorem d_Style___init__ (f_Style_own_base : Cls K (He.ga K "Style") ∧ NoAttr K (He.ga K "Style") "own_base") (f_Style_own_rules : Cls K (He.ga K "Style") ∧ NoAttr K (He.ga K "Style") "own_rules") (g_MOST_RULES : ∃ t, mg "MOST_RULES" = some (.int 8 t)) (h_is_rule_in : Has P wd K mg base "is_rule_in" 3 sp_is_rule_in) (h_need_base : Has P wd K mg base "need_base" 3 sp_need_base) (m_enumerate : mg "enumerate" = none) (m_len : mg "len" = none) (x_BadRule : ExcI P wd K mg base "BadRule" ["place"]) {f : Addr} {cdv : Value} {A : Around} {outer : List Env} {s : Shared} {H : Hp} {E : XK} (hr : RoomG 3 (A.deeper (envOfC "Style.__init__" (defScope (meth 41 0)) s.heap.objs.size f cdv))) :
    DSs (cxOf (L2.CX P wd) P wd K mg base ["self", "base", "rules", "number", "rule"] "Style.__init__" (defScope (meth 41 0)) f cdv A outer s H E) (defBody (meth 41 0)) w_Style___init__ := by
  have S := sc_Style___init__
  exact (dss_cons (ds_expr (de_fn h_need_base hr (by decide) rfl (da_cons (de_var (i := 1) rfl (.inl rfl)) da_nil)))
    (dss_cons (ds_if (dt_not (dt_chain bop_le bop_le (de_int) (de_callB (cal_len) rfl m_len (by decide +kernel) (da_cons (de_var (i := 2) rfl (.inl rfl)) da_nil)) (de_gint rfl g_MOST_RULES))) (dss_one (ds_raise x_BadRule hr (by decide) rfl rfl (by simp) (da_cons (de_non) da_nil))) dss_nil)
    (dss_cons (ds_for (passes_of rfl) rfl (di_enumT rfl m_enumerate (da_cons (de_var (i := 2) rfl (.inl rfl)) da_nil)) (dg_tup rfl (dgs_cons (dg_name (i := 3) S.nd rfl (.inl rfl)) (dgs_cons (dg_name (i := 4) S.nd rfl (.inl rfl)) dgs_nil))) (dss_one (ds_if (dt_not (dt_val (de_fn h_is_rule_in hr (by decide) rfl (da_cons (de_var (i := 1) rfl (.inl rfl)) (da_cons (de_var (i := 4) rfl (.inl rfl)) da_nil))))) (dss_one (ds_raise x_BadRule hr (by decide) rfl rfl (by simp) (da_cons (de_var (i := 3) rfl (.inl rfl)) da_nil))) dss_nil)))
    (dss_cons (ds_if (dt_cmp (bop_ne hr.units) (de_at hr.units1 (de_at hr.units1 (de_var (i := 2) rfl (.inl rfl)) (de_neg (de_int)) (fun _ _ => rfl)) (de_int) (fun _ _ => rfl)) (de_tup da_nil) (nomark _)) (dss_one (ds_raise x_BadRule hr (by decide) rfl rfl (by simp) (da_cons (de_bin bop_sub (de_callB (cal_len) rfl m_len (by decide +kernel) (da_cons (de_var (i := 2) rfl (.inl rfl)) da_nil)) (de_int)) da_nil))) dss_nil)
    (dss_cons (ds_fld (de_var (i := 0) rfl (.inl rfl)) (de_var (i := 1) rfl (.inl rfl)) (one_of_cls f_Style_own_base))
    (dss_one (ds_fld (de_var (i := 0) rfl (.inl rfl)) (de_var (i := 2) rfl (.inl rfl)) (one_of_cls f_Style_own_rules))))))))
theorem sc_Style_of : FnScope ["cls", "base", "rules"] ["cls", "base", "rules"] (defScope (meth 41 1)) := ⟨rfl, rfl, rfl, by decide +kernel, rfl, by decide +kernel, by decide +kernel⟩
theorem d_Style_of (h_need_base : Has P wd K mg base "need_base" 3 sp_need_base) (i_Style : HasI P wd K mg base "Style" 4 (starSp 2 sp_Style___init__)) (m_isinstance : mg "isinstance" = none) (m_list : mg "list" = none) (m_tuple : mg "tuple" = none) (x_BadRule : ExcI P wd K mg base "BadRule" ["place"]) {f : Addr} {cdv : Value} {A : Around} {outer : List Env} {s : Shared} {H : Hp} {E : XK} (hr : RoomG 5 (A.deeper (envOfC "Style.of" (defScope (meth 41 1)) s.heap.objs.size f cdv))) :
    DSs (cxOf (L2.CX P wd) P wd K mg base ["cls", "base", "rules"] "Style.of" (defScope (meth 41 1)) f cdv A outer s H E) (defBody (meth 41 1)) w_Style_of := by
  have S := sc_Style_of
  exact (dss_cons (ds_expr (de_fn h_need_base hr (by decide) rfl (da_cons (de_var (i := 1) rfl (.inl rfl)) da_nil)))
    (dss_cons (ds_if (dt_not (dt_val (de_isi2 (de_var (i := 2) rfl (.inl rfl)) rfl m_isinstance rfl m_tuple (by decide +kernel) rfl m_list (by decide +kernel) (by decide) (by decide) (by decide +kernel)))) (dss_one (ds_raise x_BadRule hr (by decide) rfl rfl (by simp) (da_cons (de_non) da_nil))) dss_nil)
    (dss_one (ds_ret (de_mkL (de_var (i := 0) rfl (.inl rfl)) i_Style hr (by decide) (da_cons (de_var (i := 1) rfl (.inl rfl)) (da_star (de_var (i := 2) rfl (.inl rfl)) da_nil)))))))
theorem sc_Style___len__ : FnScope ["self"] ["self"] (defScope (meth 41 8)) := ⟨rfl, rfl, rfl, by decide +kernel, rfl, by decide +kernel, by decide +kernel⟩
theorem d_Style___len__ (f_Style_own_rules : Cls K (He.ga K "Style") ∧ NoAttr K (He.ga K "Style") "own_rules") (m_len : mg "len" = none) {f : Addr} {cdv : Value} {A : Around} {outer : List Env} {s : Shared} {H : Hp} {E : XK} (hr : RoomG 0 (A.deeper (envOfC "Style.__len__" (defScope (meth 41 8)) s.heap.objs.size f cdv))) :
    DSs (cxOf (L2.CX P wd) P wd K mg base ["self"] "Style.__len__" (defScope (meth 41 8)) f cdv A outer s H E) (defBody (meth 41 8)) w_Style___len__ := by
  have S := sc_Style___len__
  exact (dss_one (ds_ret (de_callB (cal_len) rfl m_len (by decide +kernel) (da_cons (de_fld (de_var (i := 0) rfl (.inl rfl)) (one_of_cls f_Style_own_rules)) da_nil))))
theorem sc_law : FnScope ["script", "state", "odd", "turn", "thing", "due", "heard", "rows", "style", "told", "some", "bad", "base", "last", "rules"] ["script"] (defScope (top 53)) := ⟨rfl, rfl, rfl, by decide +kernel, rfl, by decide +kernel, by decide +kernel⟩
theorem d_law (R__law_raised : HasR P wd K mg base "_law_raised" "asked" 0 4 w__law_raised) (SM : SmK K) (c_Style_of : HasC P wd K mg base "Style" "of" 6 sp_Style_of) (h_Style___len__ : HasM P wd K mg base "Style" "__len__" 1 sp_Style___len__) (h__law_begin : Has P wd K mg base "_law_begin" 1 sp__law_begin) (h__law_draw : Has P wd K mg base "_law_draw" 2 sp__law_draw) (h__law_due : Has P wd K mg base "_law_due" 1 sp__law_due) (h__law_of : Has P wd K mg base "_law_of" 3 sp__law_of) (h__law_row : Has P wd K mg base "_law_row" 5 sp__law_row) (i_Style : HasI P wd K mg base "Style" 4 (starSp 2 sp_Style___init__)) (m_len : mg "len" = none) (m_list : mg "list" = none) (m_min : mg "min" = none) (m_range : mg "range" = none) (m_repr : mg "repr" = none) (p_Style_base : PropD K "Style" "base" "own_base") (p_Style_rules : PropD K "Style" "rules" "own_rules") {f : Addr} (TC : TabC K base mg f "law") {A : Around} {outer : List Env} {s : Shared} {H : Hp} {E : XK} (hr : RoomG 8 (A.deeper (envOfC "law" (defScope (top 53)) s.heap.objs.size f (codeOf K f)))) :
    DSs (cxOf (L2.CX P wd) P wd K mg base ["script", "state", "odd", "turn", "thing", "due", "heard", "rows", "style", "told", "some", "bad", "base", "last", "rules"] "law" (defScope (top 53)) f (codeOf K f) A outer s H E) (defBody (top 53)) w_law := by
  have S := sc_law
  obtain ⟨c, Pl, TB, hco, hTa, hqu⟩ := TC
  exact (dss_cons (ds_set (i := 1) S.nd rfl (.inl rfl) (de_fn h__law_begin hr (by decide) rfl (da_cons (de_var (i := 0) rfl (.inl rfl)) da_nil)))
    (dss_cons (ds_set (i := 2) S.nd rfl (.inl rfl) (de_lst (da_cons (de_non) (da_cons (de_int) (da_cons (de_str) (da_cons (de_tup da_nil) (da_cons (de_tup (da_cons (de_tup da_nil) (da_cons (de_tup (da_cons (de_str) (da_cons (de_int) da_nil))) da_nil))) (da_cons (de_tup (da_cons (de_lst da_nil) (da_cons (de_tup (da_cons (de_str) da_nil)) da_nil))) (da_cons (de_tup (da_cons (de_tup (da_cons (de_tup (da_cons (de_str) (da_cons (de_int) da_nil))) da_nil)) (da_cons (de_tup (da_cons (de_str) da_nil)) da_nil))) (da_cons (de_lst (da_cons (de_tup da_nil) (da_cons (de_tup (da_cons (de_str) da_nil)) da_nil))) da_nil))))))))))
    (dss_cons (ds_for (passes_of rfl) rfl (di_range1 rfl m_range (da_cons (de_bin bop_add (de_int) (de_callB (cal_min2 rfl) rfl m_min (by decide +kernel) (da_cons (de_int) (da_cons (de_callB (cal_len) rfl m_len (by decide +kernel) (da_cons (de_var (i := 0) rfl (.inl rfl)) da_nil)) da_nil)))) da_nil)) (dg_name (i := 3) S.nd rfl (.inl rfl)) (dss_cons (ds_set (i := 12) S.nd rfl (.inr rfl) (de_bin bop_add (de_int) (de_fn h__law_draw hr (by decide) rfl (da_cons (de_var (i := 1) rfl (.inl rfl)) (da_cons (de_int) da_nil)))))
    (dss_cons (ds_set (i := 14) S.nd rfl (.inr rfl) (de_fn h__law_row hr (by decide) rfl (da_cons (de_var (i := 1) rfl (.inl rfl)) (da_cons (de_var (i := 12) rfl (.inr (.inl rfl))) (da_cons (de_var (i := 2) rfl (.inl rfl)) da_nil)))))
    (dss_cons (ds_set (i := 5) S.nd rfl (.inl rfl) (de_fn h__law_due hr (by decide) rfl (da_cons (de_var (i := 14) rfl (.inr (.inl rfl))) (da_cons (de_lc rfl S.nd (by exact (di_val (de_var (i := 2) rfl (.inl rfl)))) (blkOk_by (own := [("thing", 4)]) (by kernel_rfl)) (fun _ _ _ _ _ => (pg_name (i := 4) S.nd rfl (.inl rfl))) tgd_name (fun _ _ _ _ _ => dts_nil) (fun _ _ _ _ _ => (de_callB (cal_repr SM hr.gd hr.u65) rfl m_repr (by decide +kernel) (da_cons (de_var (i := 4) rfl (.inl rfl)) da_nil)))) da_nil))))
    (dss_cons (ds_set (i := 6) S.nd rfl (.inl rfl) (de_lst (da_cons (de_raised (k := 6) (R__law_raised.mono (by decide)) (hr.mono (by decide)) rfl (lamZ_by (by kernel_rfl)) (makes0 (lamZ_by (by kernel_rfl)) TB hco) hTa hqu (fun _ _ _ _ _ _ _ hr => (de_cmeth c_Style_of hr (by decide) rfl (da_cons (de_var (i := 12) rfl (.inr (.inr rfl))) (da_cons (de_var (i := 14) rfl (.inr (.inr rfl))) da_nil))))) (da_cons (de_raised (k := 6) (R__law_raised.mono (by decide)) (hr.mono (by decide)) rfl (lamZ_by (by kernel_rfl)) (makes1 (lamZ_by (by kernel_rfl)) TB hco rfl (fun _ _ _ _ _ _ _ _ => ⟨_, rfl, rfl⟩)) hTa hqu (fun _ _ _ _ _ _ _ hr => (de_cmeth c_Style_of hr (by decide) rfl (da_cons (de_var (i := 12) rfl (.inr (.inr rfl))) (da_cons (de_callTy (cal_list) rfl m_list (by decide +kernel) (da_cons (de_var (i := 14) rfl (.inr (.inr rfl))) da_nil)) da_nil))))) da_nil))))
    (dss_cons (ds_if (dt_cmp (bop_ne hr.units) (de_callB (cal_repr SM hr.gd hr.u65) rfl m_repr (by decide +kernel) (da_cons (de_var (i := 6) rfl (.inl rfl)) da_nil)) (de_callB (cal_repr SM hr.gd hr.u65) rfl m_repr (by decide +kernel) (da_cons (de_bin bop_mul (de_lst (da_cons (de_if (dt_cmp (bop_ne hr.units) (de_var (i := 5) rfl (.inl rfl)) (de_lst da_nil) (nomark _)) (de_tup (da_cons (de_str) (da_cons (de_at hr.units1 (de_var (i := 5) rfl (.inl rfl)) (de_int) (fun _ _ => rfl)) da_nil))) (de_tup da_nil)) da_nil)) (de_int)) da_nil)) (nomark _)) (dss_one (ds_ret (de_bl))) dss_nil)
    (dss_cons (ds_set (i := 11) S.nd rfl (.inr rfl) (de_fn h__law_of hr (by decide) rfl (da_cons (de_var (i := 1) rfl (.inl rfl)) (da_cons (de_lst (da_cons (de_non) (da_cons (de_int) (da_cons (de_int) (da_cons (de_int) (da_cons (de_bl) (da_cons (de_str) (da_cons (de_tup (da_cons (de_int) da_nil)) (da_cons (de_bin bop_pow (de_int) (de_int)) da_nil))))))))) da_nil))))
    (dss_cons (ds_if (dt_cmp (bop_ne hr.units) (de_callB (cal_repr SM hr.gd hr.u65) rfl m_repr (by decide +kernel) (da_cons (de_raised (k := 6) (R__law_raised.mono (by decide)) (hr.mono (by decide)) rfl (lamZ_by (by kernel_rfl)) (makes0 (lamZ_by (by kernel_rfl)) TB hco) hTa hqu (fun _ _ _ _ _ _ _ hr => (de_cmeth c_Style_of hr (by decide) rfl (da_cons (de_var (i := 11) rfl (.inr (.inr rfl))) (da_cons (de_var (i := 14) rfl (.inr (.inr rfl))) da_nil))))) da_nil)) (de_callB (cal_repr SM hr.gd hr.u65) rfl m_repr (by decide +kernel) (da_cons (de_tup (da_cons (de_str) (da_cons (de_var (i := 11) rfl (.inr (.inl rfl))) da_nil))) da_nil)) (nomark _)) (dss_one (ds_ret (de_bl))) dss_nil)
    (dss_cons (ds_if (dt_cmp (bop_eq hr.units) (de_var (i := 5) rfl (.inl rfl)) (de_lst da_nil) (nomark _)) (dss_cons (ds_set (i := 7) S.nd rfl (.inl rfl) (de_callTy (cal_list) rfl m_list (by decide +kernel) (da_cons (de_var (i := 14) rfl (.inr (.inl rfl))) da_nil)))
    (dss_cons (ds_set (i := 8) S.nd rfl (.inl rfl) (de_cmeth c_Style_of hr (by decide) rfl (da_cons (de_var (i := 12) rfl (.inr (.inl rfl))) (da_cons (de_var (i := 7) rfl (.inl rfl)) da_nil))))
    (dss_cons (ds_expr (de_met PySem.F.plainAttrs_list PySem.F.slot_list_append PySem.F.type_list_append met_append (de_var (i := 7) rfl (.inl rfl)) (da_cons (de_at hr.units1 (de_var (i := 7) rfl (.inl rfl)) (de_int) (fun _ _ => rfl)) da_nil)))
    (dss_one (ds_if (dt_cmp (bop_ne hr.units) (de_callB (cal_repr SM hr.gd hr.u65) rfl m_repr (by decide +kernel) (da_cons (de_lst (da_cons (de_prop (de_var (i := 8) rfl (.inl rfl)) p_Style_base hr (by decide)) (da_cons (de_prop (de_var (i := 8) rfl (.inl rfl)) p_Style_rules hr (by decide)) (da_cons (de_lenI rfl m_len (de_var (i := 8) rfl (.inl rfl)) h_Style___len__ hr (by decide)) da_nil)))) da_nil)) (de_callB (cal_repr SM hr.gd hr.u65) rfl m_repr (by decide +kernel) (da_cons (de_lst (da_cons (de_var (i := 12) rfl (.inr (.inl rfl))) (da_cons (de_var (i := 14) rfl (.inr (.inl rfl))) (da_cons (de_callB (cal_len) rfl m_len (by decide +kernel) (da_cons (de_var (i := 14) rfl (.inr (.inl rfl))) da_nil)) da_nil)))) da_nil)) (nomark _)) (dss_one (ds_ret (de_bl))) dss_nil))))) dss_nil)
    (dss_cons (ds_set (i := 4) S.nd rfl (.inr rfl) (de_fn h__law_of hr (by decide) rfl (da_cons (de_var (i := 1) rfl (.inl rfl)) (da_cons (de_lst (da_cons (de_non) (da_cons (de_int) (da_cons (de_str) (da_cons (de_dict0) (da_cons (de_bl) da_nil)))))) da_nil))))
    (dss_cons (ds_set (i := 9) S.nd rfl (.inl rfl) (de_lst (da_cons (de_raised (k := 6) (R__law_raised.mono (by decide)) (hr.mono (by decide)) rfl (lamZ_by (by kernel_rfl)) (makes0 (lamZ_by (by kernel_rfl)) TB hco) hTa hqu (fun _ _ _ _ _ _ _ hr => (de_cmeth c_Style_of hr (by decide) rfl (da_cons (de_var (i := 12) rfl (.inr (.inr rfl))) (da_cons (de_var (i := 4) rfl (.inr (.inr rfl))) da_nil))))) (da_cons (de_raised (k := 6) (R__law_raised.mono (by decide)) (hr.mono (by decide)) rfl (lamZ_by (by kernel_rfl)) (makes1 (lamZ_by (by kernel_rfl)) TB hco rfl (fun _ _ _ _ _ _ _ _ => ⟨_, rfl, rfl⟩)) hTa hqu (fun _ _ _ _ _ _ _ hr => (de_cmeth c_Style_of hr (by decide) rfl (da_cons (de_var (i := 11) rfl (.inr (.inr rfl))) (da_cons (de_var (i := 4) rfl (.inr (.inr rfl))) da_nil))))) da_nil))))
    (dss_one (ds_if (dt_cmp (bop_ne hr.units) (de_callB (cal_repr SM hr.gd hr.u65) rfl m_repr (by decide +kernel) (da_cons (de_var (i := 9) rfl (.inl rfl)) da_nil)) (de_callB (cal_repr SM hr.gd hr.u65) rfl m_repr (by decide +kernel) (da_cons (de_lst (da_cons (de_tup (da_cons (de_str) (da_cons (de_non) da_nil))) (da_cons (de_tup (da_cons (de_str) (da_cons (de_var (i := 11) rfl (.inr (.inl rfl))) da_nil))) da_nil))) da_nil)) (nomark _)) (dss_one (ds_ret (de_bl))) dss_nil)))))))))))))
    (dss_cons (ds_set (i := 13) S.nd rfl (.inr rfl) (de_tup (da_cons (de_tup da_nil) (da_cons (de_tup (da_cons (de_str) da_nil)) da_nil))))
    (dss_cons (ds_set (i := 9) S.nd rfl (.inl rfl) (de_lst (da_cons (de_raised (k := 5) (R__law_raised.mono (by decide)) (hr.mono (by decide)) rfl (lamZ_by (by kernel_rfl)) (makes0 (lamZ_by (by kernel_rfl)) TB hco) hTa hqu (fun _ _ _ _ _ _ _ hr => (de_mk i_Style hr (by decide) rfl (da_cons (de_int) da_nil)))) (da_cons (de_raised (k := 5) (R__law_raised.mono (by decide)) (hr.mono (by decide)) rfl (lamZ_by (by kernel_rfl)) (makes1 (lamZ_by (by kernel_rfl)) TB hco rfl (fun _ _ _ _ _ _ _ _ => ⟨_, rfl, rfl⟩)) hTa hqu (fun _ _ _ _ _ _ _ hr => (de_mk i_Style hr (by decide) rfl (da_cons (de_int) (da_cons (de_tup da_nil) da_nil))))) da_nil))))
    (dss_cons (ds_expr (de_met PySem.F.plainAttrs_list PySem.F.slot_list_append PySem.F.type_list_append met_append (de_var (i := 9) rfl (.inl rfl)) (da_cons (de_raised (k := 5) (R__law_raised.mono (by decide)) (hr.mono (by decide)) rfl (lamZ_by (by kernel_rfl)) (makes0 (lamZ_by (by kernel_rfl)) TB hco) hTa hqu (fun _ _ _ _ _ _ _ hr => (de_mk i_Style hr (by decide) rfl (da_cons (de_int) (da_cons (de_var (i := 13) rfl (.inr (.inr rfl))) da_nil))))) da_nil)))
    (dss_cons (ds_set (i := 10) S.nd rfl (.inl rfl) (de_lst (da_cons (de_raised (k := 5) (R__law_raised.mono (by decide)) (hr.mono (by decide)) rfl (lamZ_by (by kernel_rfl)) (makes0 (lamZ_by (by kernel_rfl)) TB hco) hTa hqu (fun _ _ _ _ _ _ _ hr => (de_mk i_Style hr (by decide) rfl (da_cons (de_int) (da_cons (de_tup da_nil) da_nil))))) (da_cons (de_raised (k := 5) (R__law_raised.mono (by decide)) (hr.mono (by decide)) rfl (lamZ_by (by kernel_rfl)) (makes1 (lamZ_by (by kernel_rfl)) TB hco rfl (fun _ _ _ _ _ _ _ _ => ⟨_, rfl, rfl⟩)) hTa hqu (fun _ _ _ _ _ _ _ hr => (de_mk i_Style hr (by decide) rfl (da_cons (de_int) da_nil)))) da_nil))))
    (dss_cons (ds_if (dt_cmp (bop_ne hr.units) (de_var (i := 10) rfl (.inl rfl)) (de_lst (da_cons (de_tup (da_cons (de_str) (da_cons (de_int) da_nil))) (da_cons (de_tup (da_cons (de_str) (da_cons (de_int) da_nil))) da_nil))) (nomark _)) (dss_one (ds_ret (de_bl))) dss_nil)
    (dss_one (ds_ret ((de_and (de_cmp (bop_eq hr.units) (de_callB (cal_repr SM hr.gd hr.u65) rfl m_repr (by decide +kernel) (da_cons (de_var (i := 9) rfl (.inl rfl)) da_nil)) (de_callB (cal_repr SM hr.gd hr.u65) rfl m_repr (by decide +kernel) (da_cons (de_lst (da_cons (de_tup (da_cons (de_str) (da_cons (de_non) da_nil))) (da_cons (de_tup (da_cons (de_str) (da_cons (de_int) da_nil))) (da_cons (de_tup da_nil) da_nil)))) da_nil)) (nomark _)) (de_one (de_cmp (bop_eq hr.units) (de_prop (de_mk i_Style hr (by decide) rfl (da_cons (de_int) (da_cons (de_var (i := 13) rfl (.inr (.inl rfl))) (da_cons (de_var (i := 13) rfl (.inr (.inl rfl))) da_nil)))) p_Style_rules hr (by decide)) (de_tup (da_cons (de_var (i := 13) rfl (.inr (.inl rfl))) (da_cons (de_var (i := 13) rfl (.inr (.inl rfl))) da_nil))) (nomark _)))))))))))))))
theorem sc_BadBase___init__ : FnScope ["self", "value"] ["self", "value"] (defScope (meth 3 0)) := ⟨rfl, rfl, rfl, by decide +kernel, rfl, by decide +kernel, by decide +kernel⟩
theorem b_BadBase {fI : Addr} (m_SpanError : mg "SpanError" = some (.ref (He.ga K "SpanError"))) (s_SpanError : SupC K "SpanError") : NoxOk P wd K mg base ["self", "value"] "BadBase.__init__" (defScope (meth 3 0)) fI (defBody (meth 3 0)) (tB1 K "not a base" "value") := fun cdv A outer s H E =>
  pss_cons (ps_expr (pe_sup rfl m_SpanError s_SpanError (pa_cons (pe_var (i := 0) rfl (.inl rfl)) (pa_cons pe_str pa_nil)) (by decide) rfl rfl rfl)) (pss_one (ps_ost (pe_var (i := 0) rfl (.inl rfl)) (pe_var (i := 1) rfl (.inl rfl))))
theorem sc_BadRule___init__ : FnScope ["self", "place"] ["self", "place"] (defScope (meth 7 0)) := ⟨rfl, rfl, rfl, by decide +kernel, rfl, by decide +kernel, by decide +kernel⟩
theorem b_BadRule {fI : Addr} (m_SpanError : mg "SpanError" = some (.ref (He.ga K "SpanError"))) (s_SpanError : SupC K "SpanError") : NoxOk P wd K mg base ["self", "place"] "BadRule.__init__" (defScope (meth 7 0)) fI (defBody (meth 7 0)) (tB1 K "not the rules of a style" "place") := fun cdv A outer s H E =>
  pss_cons (ps_expr (pe_sup rfl m_SpanError s_SpanError (pa_cons (pe_var (i := 0) rfl (.inl rfl)) (pa_cons pe_str pa_nil)) (by decide) rfl rfl rfl)) (pss_one (ps_ost (pe_var (i := 0) rfl (.inl rfl)) (pe_var (i := 1) rfl (.inl rfl))))
end
theorem sc_Style_base : FnScope ["self"] ["self"] (defScope (meth 41 2)) := ⟨rfl, rfl, rfl, by decide +kernel, rfl, by decide +kernel, by decide +kernel⟩
theorem sc_Style_rules : FnScope ["self"] ["self"] (defScope (meth 41 3)) := ⟨rfl, rfl, rfl, by decide +kernel, rfl, by decide +kernel, by decide +kernel⟩
theorem len__law_begin : ∀ ds ah q x, sp__law_begin ds ah q x → ds.length = 1 := by
  first
  | (rintro _ _ _ _ (⟨_, _, _, rfl, _⟩ | ⟨_, _, rfl, _⟩) <;> rfl)
  | (rintro _ _ _ _ ⟨rfl, _⟩; rfl)
  | (rintro _ _ _ _ ⟨_, rfl, _⟩; rfl)
  | (rintro _ _ _ _ ⟨_, _, rfl, _⟩; rfl)
  | (rintro _ _ _ _ ⟨_, _, _, rfl, _⟩; rfl)
  | (rintro _ _ _ _ ⟨_, _, _, _, rfl, _⟩; rfl)
  | (rintro _ _ _ _ ⟨_, _, _, _, _, rfl, _⟩; rfl)
  | (rintro _ _ _ _ ⟨_, _, _, _, _, _, rfl, _⟩; rfl)
  | (rintro _ _ _ _ ⟨_, _, _, _, _, _, _, rfl, _⟩; rfl)
  | (rintro _ _ _ _ ⟨_, _, _, _, _, _, _, _, rfl, _⟩; rfl)
  | (rintro _ _ _ _ ⟨_, _, _, _, _, _, _, _, _, rfl, _⟩; rfl)
  | (rintro _ _ _ _ ⟨_, _, _, _, _, _, _, _, _, _, rfl, _⟩; rfl)
  | (rintro _ _ _ _ ⟨_, _, _, ⟨rfl, _⟩, _⟩; rfl)
  | (rintro _ _ _ _ ⟨_, _, _, _, ⟨rfl, _⟩, _⟩; rfl)
  | (rintro _ _ _ _ ⟨_, _, _, _, _, ⟨rfl, _⟩, _⟩; rfl)
  | (rintro _ _ _ _ ⟨_, _, _, _, _, _, ⟨rfl, _⟩, _⟩; rfl)
  | (rintro _ _ _ _ ⟨_, _, _, _, _, _, _, ⟨rfl, _⟩, _⟩; rfl)
  | (rintro _ _ _ _ ⟨_, _, _, _, _, _, _, _, ⟨rfl, _⟩, _⟩; rfl)
  | (rintro _ _ _ _ ⟨_, _, _, ⟨rfl, _, _, _, _, _, _, _⟩, _⟩; rfl)
  | (rintro _ _ _ _ ⟨_, _, _, _, ⟨rfl, _, _, _, _, _, _, _⟩, _⟩; rfl)
  | (rintro _ _ _ _ ⟨_, _, _, _, _, ⟨rfl, _, _, _, _, _, _, _⟩, _⟩; rfl)
  | (rintro _ _ _ _ ⟨_, _, _, _, _, _, ⟨rfl, _, _, _, _, _, _, _⟩, _⟩; rfl)
  | (rintro _ _ _ _ ⟨_, _, _, _, _, _, _, ⟨rfl, _, _, _, _, _, _, _⟩, _⟩; rfl)
  | (rintro _ _ _ _ ⟨_, _, _, _, _, _, _, _, ⟨rfl, _, _, _, _, _, _, _⟩, _⟩; rfl)
theorem len__law_mixed : ∀ ds ah q x, sp__law_mixed ds ah q x → ds.length = 2 := by
  first
  | (rintro _ _ _ _ (⟨_, _, _, rfl, _⟩ | ⟨_, _, rfl, _⟩) <;> rfl)
  | (rintro _ _ _ _ ⟨rfl, _⟩; rfl)
  | (rintro _ _ _ _ ⟨_, rfl, _⟩; rfl)
  | (rintro _ _ _ _ ⟨_, _, rfl, _⟩; rfl)
  | (rintro _ _ _ _ ⟨_, _, _, rfl, _⟩; rfl)
  | (rintro _ _ _ _ ⟨_, _, _, _, rfl, _⟩; rfl)
  | (rintro _ _ _ _ ⟨_, _, _, _, _, rfl, _⟩; rfl)
  | (rintro _ _ _ _ ⟨_, _, _, _, _, _, rfl, _⟩; rfl)
  | (rintro _ _ _ _ ⟨_, _, _, _, _, _, _, rfl, _⟩; rfl)
  | (rintro _ _ _ _ ⟨_, _, _, _, _, _, _, _, rfl, _⟩; rfl)
  | (rintro _ _ _ _ ⟨_, _, _, _, _, _, _, _, _, rfl, _⟩; rfl)
  | (rintro _ _ _ _ ⟨_, _, _, _, _, _, _, _, _, _, rfl, _⟩; rfl)
  | (rintro _ _ _ _ ⟨_, _, _, ⟨rfl, _⟩, _⟩; rfl)
  | (rintro _ _ _ _ ⟨_, _, _, _, ⟨rfl, _⟩, _⟩; rfl)
  | (rintro _ _ _ _ ⟨_, _, _, _, _, ⟨rfl, _⟩, _⟩; rfl)
  | (rintro _ _ _ _ ⟨_, _, _, _, _, _, ⟨rfl, _⟩, _⟩; rfl)
  | (rintro _ _ _ _ ⟨_, _, _, _, _, _, _, ⟨rfl, _⟩, _⟩; rfl)
  | (rintro _ _ _ _ ⟨_, _, _, _, _, _, _, _, ⟨rfl, _⟩, _⟩; rfl)
  | (rintro _ _ _ _ ⟨_, _, _, ⟨rfl, _, _, _, _, _, _, _⟩, _⟩; rfl)
  | (rintro _ _ _ _ ⟨_, _, _, _, ⟨rfl, _, _, _, _, _, _, _⟩, _⟩; rfl)
  | (rintro _ _ _ _ ⟨_, _, _, _, _, ⟨rfl, _, _, _, _, _, _, _⟩, _⟩; rfl)
  | (rintro _ _ _ _ ⟨_, _, _, _, _, _, ⟨rfl, _, _, _, _, _, _, _⟩, _⟩; rfl)
  | (rintro _ _ _ _ ⟨_, _, _, _, _, _, _, ⟨rfl, _, _, _, _, _, _, _⟩, _⟩; rfl)
  | (rintro _ _ _ _ ⟨_, _, _, _, _, _, _, _, ⟨rfl, _, _, _, _, _, _, _⟩, _⟩; rfl)
theorem len__law_draw : ∀ ds ah q x, sp__law_draw ds ah q x → ds.length = 2 := by
  first
  | (rintro _ _ _ _ (⟨_, _, _, rfl, _⟩ | ⟨_, _, rfl, _⟩) <;> rfl)
  | (rintro _ _ _ _ ⟨rfl, _⟩; rfl)
  | (rintro _ _ _ _ ⟨_, rfl, _⟩; rfl)
  | (rintro _ _ _ _ ⟨_, _, rfl, _⟩; rfl)
  | (rintro _ _ _ _ ⟨_, _, _, rfl, _⟩; rfl)
  | (rintro _ _ _ _ ⟨_, _, _, _, rfl, _⟩; rfl)
  | (rintro _ _ _ _ ⟨_, _, _, _, _, rfl, _⟩; rfl)
  | (rintro _ _ _ _ ⟨_, _, _, _, _, _, rfl, _⟩; rfl)
  | (rintro _ _ _ _ ⟨_, _, _, _, _, _, _, rfl, _⟩; rfl)
  | (rintro _ _ _ _ ⟨_, _, _, _, _, _, _, _, rfl, _⟩; rfl)
  | (rintro _ _ _ _ ⟨_, _, _, _, _, _, _, _, _, rfl, _⟩; rfl)
  | (rintro _ _ _ _ ⟨_, _, _, _, _, _, _, _, _, _, rfl, _⟩; rfl)
  | (rintro _ _ _ _ ⟨_, _, _, ⟨rfl, _⟩, _⟩; rfl)
  | (rintro _ _ _ _ ⟨_, _, _, _, ⟨rfl, _⟩, _⟩; rfl)
  | (rintro _ _ _ _ ⟨_, _, _, _, _, ⟨rfl, _⟩, _⟩; rfl)
  | (rintro _ _ _ _ ⟨_, _, _, _, _, _, ⟨rfl, _⟩, _⟩; rfl)
  | (rintro _ _ _ _ ⟨_, _, _, _, _, _, _, ⟨rfl, _⟩, _⟩; rfl)
  | (rintro _ _ _ _ ⟨_, _, _, _, _, _, _, _, ⟨rfl, _⟩, _⟩; rfl)
  | (rintro _ _ _ _ ⟨_, _, _, ⟨rfl, _, _, _, _, _, _, _⟩, _⟩; rfl)
  | (rintro _ _ _ _ ⟨_, _, _, _, ⟨rfl, _, _, _, _, _, _, _⟩, _⟩; rfl)
  | (rintro _ _ _ _ ⟨_, _, _, _, _, ⟨rfl, _, _, _, _, _, _, _⟩, _⟩; rfl)
  | (rintro _ _ _ _ ⟨_, _, _, _, _, _, ⟨rfl, _, _, _, _, _, _, _⟩, _⟩; rfl)
  | (rintro _ _ _ _ ⟨_, _, _, _, _, _, _, ⟨rfl, _, _, _, _, _, _, _⟩, _⟩; rfl)
  | (rintro _ _ _ _ ⟨_, _, _, _, _, _, _, _, ⟨rfl, _, _, _, _, _, _, _⟩, _⟩; rfl)
theorem len__law_condition : ∀ ds ah q x, sp__law_condition ds ah q x → ds.length = 3 := by
  first
  | (rintro _ _ _ _ (⟨_, _, _, rfl, _⟩ | ⟨_, _, rfl, _⟩) <;> rfl)
  | (rintro _ _ _ _ ⟨rfl, _⟩; rfl)
  | (rintro _ _ _ _ ⟨_, rfl, _⟩; rfl)
  | (rintro _ _ _ _ ⟨_, _, rfl, _⟩; rfl)
  | (rintro _ _ _ _ ⟨_, _, _, rfl, _⟩; rfl)
  | (rintro _ _ _ _ ⟨_, _, _, _, rfl, _⟩; rfl)
  | (rintro _ _ _ _ ⟨_, _, _, _, _, rfl, _⟩; rfl)
  | (rintro _ _ _ _ ⟨_, _, _, _, _, _, rfl, _⟩; rfl)
  | (rintro _ _ _ _ ⟨_, _, _, _, _, _, _, rfl, _⟩; rfl)
  | (rintro _ _ _ _ ⟨_, _, _, _, _, _, _, _, rfl, _⟩; rfl)
  | (rintro _ _ _ _ ⟨_, _, _, _, _, _, _, _, _, rfl, _⟩; rfl)
  | (rintro _ _ _ _ ⟨_, _, _, _, _, _, _, _, _, _, rfl, _⟩; rfl)
  | (rintro _ _ _ _ ⟨_, _, _, ⟨rfl, _⟩, _⟩; rfl)
  | (rintro _ _ _ _ ⟨_, _, _, _, ⟨rfl, _⟩, _⟩; rfl)
  | (rintro _ _ _ _ ⟨_, _, _, _, _, ⟨rfl, _⟩, _⟩; rfl)
  | (rintro _ _ _ _ ⟨_, _, _, _, _, _, ⟨rfl, _⟩, _⟩; rfl)
  | (rintro _ _ _ _ ⟨_, _, _, _, _, _, _, ⟨rfl, _⟩, _⟩; rfl)
  | (rintro _ _ _ _ ⟨_, _, _, _, _, _, _, _, ⟨rfl, _⟩, _⟩; rfl)
  | (rintro _ _ _ _ ⟨_, _, _, ⟨rfl, _, _, _, _, _, _, _⟩, _⟩; rfl)
  | (rintro _ _ _ _ ⟨_, _, _, _, ⟨rfl, _, _, _, _, _, _, _⟩, _⟩; rfl)
  | (rintro _ _ _ _ ⟨_, _, _, _, _, ⟨rfl, _, _, _, _, _, _, _⟩, _⟩; rfl)
  | (rintro _ _ _ _ ⟨_, _, _, _, _, _, ⟨rfl, _, _, _, _, _, _, _⟩, _⟩; rfl)
  | (rintro _ _ _ _ ⟨_, _, _, _, _, _, _, ⟨rfl, _, _, _, _, _, _, _⟩, _⟩; rfl)
  | (rintro _ _ _ _ ⟨_, _, _, _, _, _, _, _, ⟨rfl, _, _, _, _, _, _, _⟩, _⟩; rfl)
theorem len__law_keep : ∀ ds ah q x, sp__law_keep ds ah q x → ds.length = 2 := by
  first
  | (rintro _ _ _ _ (⟨_, _, _, rfl, _⟩ | ⟨_, _, rfl, _⟩) <;> rfl)
  | (rintro _ _ _ _ ⟨rfl, _⟩; rfl)
  | (rintro _ _ _ _ ⟨_, rfl, _⟩; rfl)
  | (rintro _ _ _ _ ⟨_, _, rfl, _⟩; rfl)
  | (rintro _ _ _ _ ⟨_, _, _, rfl, _⟩; rfl)
  | (rintro _ _ _ _ ⟨_, _, _, _, rfl, _⟩; rfl)
  | (rintro _ _ _ _ ⟨_, _, _, _, _, rfl, _⟩; rfl)
  | (rintro _ _ _ _ ⟨_, _, _, _, _, _, rfl, _⟩; rfl)
  | (rintro _ _ _ _ ⟨_, _, _, _, _, _, _, rfl, _⟩; rfl)
  | (rintro _ _ _ _ ⟨_, _, _, _, _, _, _, _, rfl, _⟩; rfl)
  | (rintro _ _ _ _ ⟨_, _, _, _, _, _, _, _, _, rfl, _⟩; rfl)
  | (rintro _ _ _ _ ⟨_, _, _, _, _, _, _, _, _, _, rfl, _⟩; rfl)
  | (rintro _ _ _ _ ⟨_, _, _, ⟨rfl, _⟩, _⟩; rfl)
  | (rintro _ _ _ _ ⟨_, _, _, _, ⟨rfl, _⟩, _⟩; rfl)
  | (rintro _ _ _ _ ⟨_, _, _, _, _, ⟨rfl, _⟩, _⟩; rfl)
  | (rintro _ _ _ _ ⟨_, _, _, _, _, _, ⟨rfl, _⟩, _⟩; rfl)
  | (rintro _ _ _ _ ⟨_, _, _, _, _, _, _, ⟨rfl, _⟩, _⟩; rfl)
  | (rintro _ _ _ _ ⟨_, _, _, _, _, _, _, _, ⟨rfl, _⟩, _⟩; rfl)
  | (rintro _ _ _ _ ⟨_, _, _, ⟨rfl, _, _, _, _, _, _, _⟩, _⟩; rfl)
  | (rintro _ _ _ _ ⟨_, _, _, _, ⟨rfl, _, _, _, _, _, _, _⟩, _⟩; rfl)
  | (rintro _ _ _ _ ⟨_, _, _, _, _, ⟨rfl, _, _, _, _, _, _, _⟩, _⟩; rfl)
  | (rintro _ _ _ _ ⟨_, _, _, _, _, _, ⟨rfl, _, _, _, _, _, _, _⟩, _⟩; rfl)
  | (rintro _ _ _ _ ⟨_, _, _, _, _, _, _, ⟨rfl, _, _, _, _, _, _, _⟩, _⟩; rfl)
  | (rintro _ _ _ _ ⟨_, _, _, _, _, _, _, _, ⟨rfl, _, _, _, _, _, _, _⟩, _⟩; rfl)
theorem len__law_rules : ∀ ds ah q x, sp__law_rules ds ah q x → ds.length = 4 := by
  first
  | (rintro _ _ _ _ (⟨_, _, _, rfl, _⟩ | ⟨_, _, rfl, _⟩) <;> rfl)
  | (rintro _ _ _ _ ⟨rfl, _⟩; rfl)
  | (rintro _ _ _ _ ⟨_, rfl, _⟩; rfl)
  | (rintro _ _ _ _ ⟨_, _, rfl, _⟩; rfl)
  | (rintro _ _ _ _ ⟨_, _, _, rfl, _⟩; rfl)
  | (rintro _ _ _ _ ⟨_, _, _, _, rfl, _⟩; rfl)
  | (rintro _ _ _ _ ⟨_, _, _, _, _, rfl, _⟩; rfl)
  | (rintro _ _ _ _ ⟨_, _, _, _, _, _, rfl, _⟩; rfl)
  | (rintro _ _ _ _ ⟨_, _, _, _, _, _, _, rfl, _⟩; rfl)
  | (rintro _ _ _ _ ⟨_, _, _, _, _, _, _, _, rfl, _⟩; rfl)
  | (rintro _ _ _ _ ⟨_, _, _, _, _, _, _, _, _, rfl, _⟩; rfl)
  | (rintro _ _ _ _ ⟨_, _, _, _, _, _, _, _, _, _, rfl, _⟩; rfl)
  | (rintro _ _ _ _ ⟨_, _, _, ⟨rfl, _⟩, _⟩; rfl)
  | (rintro _ _ _ _ ⟨_, _, _, _, ⟨rfl, _⟩, _⟩; rfl)
  | (rintro _ _ _ _ ⟨_, _, _, _, _, ⟨rfl, _⟩, _⟩; rfl)
  | (rintro _ _ _ _ ⟨_, _, _, _, _, _, ⟨rfl, _⟩, _⟩; rfl)
  | (rintro _ _ _ _ ⟨_, _, _, _, _, _, _, ⟨rfl, _⟩, _⟩; rfl)
  | (rintro _ _ _ _ ⟨_, _, _, _, _, _, _, _, ⟨rfl, _⟩, _⟩; rfl)
  | (rintro _ _ _ _ ⟨_, _, _, ⟨rfl, _, _, _, _, _, _, _⟩, _⟩; rfl)
  | (rintro _ _ _ _ ⟨_, _, _, _, ⟨rfl, _, _, _, _, _, _, _⟩, _⟩; rfl)
  | (rintro _ _ _ _ ⟨_, _, _, _, _, ⟨rfl, _, _, _, _, _, _, _⟩, _⟩; rfl)
  | (rintro _ _ _ _ ⟨_, _, _, _, _, _, ⟨rfl, _, _, _, _, _, _, _⟩, _⟩; rfl)
  | (rintro _ _ _ _ ⟨_, _, _, _, _, _, _, ⟨rfl, _, _, _, _, _, _, _⟩, _⟩; rfl)
  | (rintro _ _ _ _ ⟨_, _, _, _, _, _, _, _, ⟨rfl, _, _, _, _, _, _, _⟩, _⟩; rfl)
theorem len__law_of : ∀ ds ah q x, sp__law_of ds ah q x → ds.length = 2 := by
  first
  | (rintro _ _ _ _ (⟨_, _, _, rfl, _⟩ | ⟨_, _, rfl, _⟩) <;> rfl)
  | (rintro _ _ _ _ ⟨rfl, _⟩; rfl)
  | (rintro _ _ _ _ ⟨_, rfl, _⟩; rfl)
  | (rintro _ _ _ _ ⟨_, _, rfl, _⟩; rfl)
  | (rintro _ _ _ _ ⟨_, _, _, rfl, _⟩; rfl)
  | (rintro _ _ _ _ ⟨_, _, _, _, rfl, _⟩; rfl)
  | (rintro _ _ _ _ ⟨_, _, _, _, _, rfl, _⟩; rfl)
  | (rintro _ _ _ _ ⟨_, _, _, _, _, _, rfl, _⟩; rfl)
  | (rintro _ _ _ _ ⟨_, _, _, _, _, _, _, rfl, _⟩; rfl)
  | (rintro _ _ _ _ ⟨_, _, _, _, _, _, _, _, rfl, _⟩; rfl)
  | (rintro _ _ _ _ ⟨_, _, _, _, _, _, _, _, _, rfl, _⟩; rfl)
  | (rintro _ _ _ _ ⟨_, _, _, _, _, _, _, _, _, _, rfl, _⟩; rfl)
  | (rintro _ _ _ _ ⟨_, _, _, ⟨rfl, _⟩, _⟩; rfl)
  | (rintro _ _ _ _ ⟨_, _, _, _, ⟨rfl, _⟩, _⟩; rfl)
  | (rintro _ _ _ _ ⟨_, _, _, _, _, ⟨rfl, _⟩, _⟩; rfl)
  | (rintro _ _ _ _ ⟨_, _, _, _, _, _, ⟨rfl, _⟩, _⟩; rfl)
  | (rintro _ _ _ _ ⟨_, _, _, _, _, _, _, ⟨rfl, _⟩, _⟩; rfl)
  | (rintro _ _ _ _ ⟨_, _, _, _, _, _, _, _, ⟨rfl, _⟩, _⟩; rfl)
  | (rintro _ _ _ _ ⟨_, _, _, ⟨rfl, _, _, _, _, _, _, _⟩, _⟩; rfl)
  | (rintro _ _ _ _ ⟨_, _, _, _, ⟨rfl, _, _, _, _, _, _, _⟩, _⟩; rfl)
  | (rintro _ _ _ _ ⟨_, _, _, _, _, ⟨rfl, _, _, _, _, _, _, _⟩, _⟩; rfl)
  | (rintro _ _ _ _ ⟨_, _, _, _, _, _, ⟨rfl, _, _, _, _, _, _, _⟩, _⟩; rfl)
  | (rintro _ _ _ _ ⟨_, _, _, _, _, _, _, ⟨rfl, _, _, _, _, _, _, _⟩, _⟩; rfl)
  | (rintro _ _ _ _ ⟨_, _, _, _, _, _, _, _, ⟨rfl, _, _, _, _, _, _, _⟩, _⟩; rfl)
theorem len__law_row : ∀ ds ah q x, sp__law_row ds ah q x → ds.length = 3 := by
  first
  | (rintro _ _ _ _ (⟨_, _, _, rfl, _⟩ | ⟨_, _, rfl, _⟩) <;> rfl)
  | (rintro _ _ _ _ ⟨rfl, _⟩; rfl)
  | (rintro _ _ _ _ ⟨_, rfl, _⟩; rfl)
  | (rintro _ _ _ _ ⟨_, _, rfl, _⟩; rfl)
  | (rintro _ _ _ _ ⟨_, _, _, rfl, _⟩; rfl)
  | (rintro _ _ _ _ ⟨_, _, _, _, rfl, _⟩; rfl)
  | (rintro _ _ _ _ ⟨_, _, _, _, _, rfl, _⟩; rfl)
  | (rintro _ _ _ _ ⟨_, _, _, _, _, _, rfl, _⟩; rfl)
  | (rintro _ _ _ _ ⟨_, _, _, _, _, _, _, rfl, _⟩; rfl)
  | (rintro _ _ _ _ ⟨_, _, _, _, _, _, _, _, rfl, _⟩; rfl)
  | (rintro _ _ _ _ ⟨_, _, _, _, _, _, _, _, _, rfl, _⟩; rfl)
  | (rintro _ _ _ _ ⟨_, _, _, _, _, _, _, _, _, _, rfl, _⟩; rfl)
  | (rintro _ _ _ _ ⟨_, _, _, ⟨rfl, _⟩, _⟩; rfl)
  | (rintro _ _ _ _ ⟨_, _, _, _, ⟨rfl, _⟩, _⟩; rfl)
  | (rintro _ _ _ _ ⟨_, _, _, _, _, ⟨rfl, _⟩, _⟩; rfl)
  | (rintro _ _ _ _ ⟨_, _, _, _, _, _, ⟨rfl, _⟩, _⟩; rfl)
  | (rintro _ _ _ _ ⟨_, _, _, _, _, _, _, ⟨rfl, _⟩, _⟩; rfl)
  | (rintro _ _ _ _ ⟨_, _, _, _, _, _, _, _, ⟨rfl, _⟩, _⟩; rfl)
  | (rintro _ _ _ _ ⟨_, _, _, ⟨rfl, _, _, _, _, _, _, _⟩, _⟩; rfl)
  | (rintro _ _ _ _ ⟨_, _, _, _, ⟨rfl, _, _, _, _, _, _, _⟩, _⟩; rfl)
  | (rintro _ _ _ _ ⟨_, _, _, _, _, ⟨rfl, _, _, _, _, _, _, _⟩, _⟩; rfl)
  | (rintro _ _ _ _ ⟨_, _, _, _, _, _, ⟨rfl, _, _, _, _, _, _, _⟩, _⟩; rfl)
  | (rintro _ _ _ _ ⟨_, _, _, _, _, _, _, ⟨rfl, _, _, _, _, _, _, _⟩, _⟩; rfl)
  | (rintro _ _ _ _ ⟨_, _, _, _, _, _, _, _, ⟨rfl, _, _, _, _, _, _, _⟩, _⟩; rfl)
theorem len__law_due : ∀ ds ah q x, sp__law_due ds ah q x → ds.length = 2 := by
  first
  | (rintro _ _ _ _ (⟨_, _, _, rfl, _⟩ | ⟨_, _, rfl, _⟩) <;> rfl)
  | (rintro _ _ _ _ ⟨rfl, _⟩; rfl)
  | (rintro _ _ _ _ ⟨_, rfl, _⟩; rfl)
  | (rintro _ _ _ _ ⟨_, _, rfl, _⟩; rfl)
  | (rintro _ _ _ _ ⟨_, _, _, rfl, _⟩; rfl)
  | (rintro _ _ _ _ ⟨_, _, _, _, rfl, _⟩; rfl)
  | (rintro _ _ _ _ ⟨_, _, _, _, _, rfl, _⟩; rfl)
  | (rintro _ _ _ _ ⟨_, _, _, _, _, _, rfl, _⟩; rfl)
  | (rintro _ _ _ _ ⟨_, _, _, _, _, _, _, rfl, _⟩; rfl)
  | (rintro _ _ _ _ ⟨_, _, _, _, _, _, _, _, rfl, _⟩; rfl)
  | (rintro _ _ _ _ ⟨_, _, _, _, _, _, _, _, _, rfl, _⟩; rfl)
  | (rintro _ _ _ _ ⟨_, _, _, _, _, _, _, _, _, _, rfl, _⟩; rfl)
  | (rintro _ _ _ _ ⟨_, _, _, ⟨rfl, _⟩, _⟩; rfl)
  | (rintro _ _ _ _ ⟨_, _, _, _, ⟨rfl, _⟩, _⟩; rfl)
  | (rintro _ _ _ _ ⟨_, _, _, _, _, ⟨rfl, _⟩, _⟩; rfl)
  | (rintro _ _ _ _ ⟨_, _, _, _, _, _, ⟨rfl, _⟩, _⟩; rfl)
  | (rintro _ _ _ _ ⟨_, _, _, _, _, _, _, ⟨rfl, _⟩, _⟩; rfl)
  | (rintro _ _ _ _ ⟨_, _, _, _, _, _, _, _, ⟨rfl, _⟩, _⟩; rfl)
  | (rintro _ _ _ _ ⟨_, _, _, ⟨rfl, _, _, _, _, _, _, _⟩, _⟩; rfl)
  | (rintro _ _ _ _ ⟨_, _, _, _, ⟨rfl, _, _, _, _, _, _, _⟩, _⟩; rfl)
  | (rintro _ _ _ _ ⟨_, _, _, _, _, ⟨rfl, _, _, _, _, _, _, _⟩, _⟩; rfl)
  | (rintro _ _ _ _ ⟨_, _, _, _, _, _, ⟨rfl, _, _, _, _, _, _, _⟩, _⟩; rfl)
  | (rintro _ _ _ _ ⟨_, _, _, _, _, _, _, ⟨rfl, _, _, _, _, _, _, _⟩, _⟩; rfl)
  | (rintro _ _ _ _ ⟨_, _, _, _, _, _, _, _, ⟨rfl, _, _, _, _, _, _, _⟩, _⟩; rfl)
theorem len_is_among : ∀ ds ah q x, sp_is_among ds ah q x → ds.length = 3 := by
  first
  | (rintro _ _ _ _ (⟨_, _, _, rfl, _⟩ | ⟨_, _, rfl, _⟩) <;> rfl)
  | (rintro _ _ _ _ ⟨rfl, _⟩; rfl)
  | (rintro _ _ _ _ ⟨_, rfl, _⟩; rfl)
  | (rintro _ _ _ _ ⟨_, _, rfl, _⟩; rfl)
  | (rintro _ _ _ _ ⟨_, _, _, rfl, _⟩; rfl)
  | (rintro _ _ _ _ ⟨_, _, _, _, rfl, _⟩; rfl)
  | (rintro _ _ _ _ ⟨_, _, _, _, _, rfl, _⟩; rfl)
  | (rintro _ _ _ _ ⟨_, _, _, _, _, _, rfl, _⟩; rfl)
  | (rintro _ _ _ _ ⟨_, _, _, _, _, _, _, rfl, _⟩; rfl)
  | (rintro _ _ _ _ ⟨_, _, _, _, _, _, _, _, rfl, _⟩; rfl)
  | (rintro _ _ _ _ ⟨_, _, _, _, _, _, _, _, _, rfl, _⟩; rfl)
  | (rintro _ _ _ _ ⟨_, _, _, _, _, _, _, _, _, _, rfl, _⟩; rfl)
  | (rintro _ _ _ _ ⟨_, _, _, ⟨rfl, _⟩, _⟩; rfl)
  | (rintro _ _ _ _ ⟨_, _, _, _, ⟨rfl, _⟩, _⟩; rfl)
  | (rintro _ _ _ _ ⟨_, _, _, _, _, ⟨rfl, _⟩, _⟩; rfl)
  | (rintro _ _ _ _ ⟨_, _, _, _, _, _, ⟨rfl, _⟩, _⟩; rfl)
  | (rintro _ _ _ _ ⟨_, _, _, _, _, _, _, ⟨rfl, _⟩, _⟩; rfl)
  | (rintro _ _ _ _ ⟨_, _, _, _, _, _, _, _, ⟨rfl, _⟩, _⟩; rfl)
  | (rintro _ _ _ _ ⟨_, _, _, ⟨rfl, _, _, _, _, _, _, _⟩, _⟩; rfl)
  | (rintro _ _ _ _ ⟨_, _, _, _, ⟨rfl, _, _, _, _, _, _, _⟩, _⟩; rfl)
  | (rintro _ _ _ _ ⟨_, _, _, _, _, ⟨rfl, _, _, _, _, _, _, _⟩, _⟩; rfl)
  | (rintro _ _ _ _ ⟨_, _, _, _, _, _, ⟨rfl, _, _, _, _, _, _, _⟩, _⟩; rfl)
  | (rintro _ _ _ _ ⟨_, _, _, _, _, _, _, ⟨rfl, _, _, _, _, _, _, _⟩, _⟩; rfl)
  | (rintro _ _ _ _ ⟨_, _, _, _, _, _, _, _, ⟨rfl, _, _, _, _, _, _, _⟩, _⟩; rfl)
theorem len_need_base : ∀ ds ah q x, sp_need_base ds ah q x → ds.length = 1 := by
  first
  | (rintro _ _ _ _ (⟨_, _, _, rfl, _⟩ | ⟨_, _, rfl, _⟩) <;> rfl)
  | (rintro _ _ _ _ ⟨rfl, _⟩; rfl)
  | (rintro _ _ _ _ ⟨_, rfl, _⟩; rfl)
  | (rintro _ _ _ _ ⟨_, _, rfl, _⟩; rfl)
  | (rintro _ _ _ _ ⟨_, _, _, rfl, _⟩; rfl)
  | (rintro _ _ _ _ ⟨_, _, _, _, rfl, _⟩; rfl)
  | (rintro _ _ _ _ ⟨_, _, _, _, _, rfl, _⟩; rfl)
  | (rintro _ _ _ _ ⟨_, _, _, _, _, _, rfl, _⟩; rfl)
  | (rintro _ _ _ _ ⟨_, _, _, _, _, _, _, rfl, _⟩; rfl)
  | (rintro _ _ _ _ ⟨_, _, _, _, _, _, _, _, rfl, _⟩; rfl)
  | (rintro _ _ _ _ ⟨_, _, _, _, _, _, _, _, _, rfl, _⟩; rfl)
  | (rintro _ _ _ _ ⟨_, _, _, _, _, _, _, _, _, _, rfl, _⟩; rfl)
  | (rintro _ _ _ _ ⟨_, _, _, ⟨rfl, _⟩, _⟩; rfl)
  | (rintro _ _ _ _ ⟨_, _, _, _, ⟨rfl, _⟩, _⟩; rfl)
  | (rintro _ _ _ _ ⟨_, _, _, _, _, ⟨rfl, _⟩, _⟩; rfl)
  | (rintro _ _ _ _ ⟨_, _, _, _, _, _, ⟨rfl, _⟩, _⟩; rfl)
  | (rintro _ _ _ _ ⟨_, _, _, _, _, _, _, ⟨rfl, _⟩, _⟩; rfl)
  | (rintro _ _ _ _ ⟨_, _, _, _, _, _, _, _, ⟨rfl, _⟩, _⟩; rfl)
  | (rintro _ _ _ _ ⟨_, _, _, ⟨rfl, _, _, _, _, _, _, _⟩, _⟩; rfl)
  | (rintro _ _ _ _ ⟨_, _, _, _, ⟨rfl, _, _, _, _, _, _, _⟩, _⟩; rfl)
  | (rintro _ _ _ _ ⟨_, _, _, _, _, ⟨rfl, _, _, _, _, _, _, _⟩, _⟩; rfl)
  | (rintro _ _ _ _ ⟨_, _, _, _, _, _, ⟨rfl, _, _, _, _, _, _, _⟩, _⟩; rfl)
  | (rintro _ _ _ _ ⟨_, _, _, _, _, _, _, ⟨rfl, _, _, _, _, _, _, _⟩, _⟩; rfl)
  | (rintro _ _ _ _ ⟨_, _, _, _, _, _, _, _, ⟨rfl, _, _, _, _, _, _, _⟩, _⟩; rfl)
theorem len_are_digits : ∀ ds ah q x, sp_are_digits ds ah q x → ds.length = 2 := by
  first
  | (rintro _ _ _ _ (⟨_, _, _, rfl, _⟩ | ⟨_, _, rfl, _⟩) <;> rfl)
  | (rintro _ _ _ _ ⟨rfl, _⟩; rfl)
  | (rintro _ _ _ _ ⟨_, rfl, _⟩; rfl)
  | (rintro _ _ _ _ ⟨_, _, rfl, _⟩; rfl)
  | (rintro _ _ _ _ ⟨_, _, _, rfl, _⟩; rfl)
  | (rintro _ _ _ _ ⟨_, _, _, _, rfl, _⟩; rfl)
  | (rintro _ _ _ _ ⟨_, _, _, _, _, rfl, _⟩; rfl)
  | (rintro _ _ _ _ ⟨_, _, _, _, _, _, rfl, _⟩; rfl)
  | (rintro _ _ _ _ ⟨_, _, _, _, _, _, _, rfl, _⟩; rfl)
  | (rintro _ _ _ _ ⟨_, _, _, _, _, _, _, _, rfl, _⟩; rfl)
  | (rintro _ _ _ _ ⟨_, _, _, _, _, _, _, _, _, rfl, _⟩; rfl)
  | (rintro _ _ _ _ ⟨_, _, _, _, _, _, _, _, _, _, rfl, _⟩; rfl)
  | (rintro _ _ _ _ ⟨_, _, _, ⟨rfl, _⟩, _⟩; rfl)
  | (rintro _ _ _ _ ⟨_, _, _, _, ⟨rfl, _⟩, _⟩; rfl)
  | (rintro _ _ _ _ ⟨_, _, _, _, _, ⟨rfl, _⟩, _⟩; rfl)
  | (rintro _ _ _ _ ⟨_, _, _, _, _, _, ⟨rfl, _⟩, _⟩; rfl)
  | (rintro _ _ _ _ ⟨_, _, _, _, _, _, _, ⟨rfl, _⟩, _⟩; rfl)
  | (rintro _ _ _ _ ⟨_, _, _, _, _, _, _, _, ⟨rfl, _⟩, _⟩; rfl)
  | (rintro _ _ _ _ ⟨_, _, _, ⟨rfl, _, _, _, _, _, _, _⟩, _⟩; rfl)
  | (rintro _ _ _ _ ⟨_, _, _, _, ⟨rfl, _, _, _, _, _, _, _⟩, _⟩; rfl)
  | (rintro _ _ _ _ ⟨_, _, _, _, _, ⟨rfl, _, _, _, _, _, _, _⟩, _⟩; rfl)
  | (rintro _ _ _ _ ⟨_, _, _, _, _, _, ⟨rfl, _, _, _, _, _, _, _⟩, _⟩; rfl)
  | (rintro _ _ _ _ ⟨_, _, _, _, _, _, _, ⟨rfl, _, _, _, _, _, _, _⟩, _⟩; rfl)
  | (rintro _ _ _ _ ⟨_, _, _, _, _, _, _, _, ⟨rfl, _, _, _, _, _, _, _⟩, _⟩; rfl)
theorem len_is_condition : ∀ ds ah q x, sp_is_condition ds ah q x → ds.length = 2 := by
  first
  | (rintro _ _ _ _ (⟨_, _, _, rfl, _⟩ | ⟨_, _, rfl, _⟩) <;> rfl)
  | (rintro _ _ _ _ ⟨rfl, _⟩; rfl)
  | (rintro _ _ _ _ ⟨_, rfl, _⟩; rfl)
  | (rintro _ _ _ _ ⟨_, _, rfl, _⟩; rfl)
  | (rintro _ _ _ _ ⟨_, _, _, rfl, _⟩; rfl)
  | (rintro _ _ _ _ ⟨_, _, _, _, rfl, _⟩; rfl)
  | (rintro _ _ _ _ ⟨_, _, _, _, _, rfl, _⟩; rfl)
  | (rintro _ _ _ _ ⟨_, _, _, _, _, _, rfl, _⟩; rfl)
  | (rintro _ _ _ _ ⟨_, _, _, _, _, _, _, rfl, _⟩; rfl)
  | (rintro _ _ _ _ ⟨_, _, _, _, _, _, _, _, rfl, _⟩; rfl)
  | (rintro _ _ _ _ ⟨_, _, _, _, _, _, _, _, _, rfl, _⟩; rfl)
  | (rintro _ _ _ _ ⟨_, _, _, _, _, _, _, _, _, _, rfl, _⟩; rfl)
  | (rintro _ _ _ _ ⟨_, _, _, ⟨rfl, _⟩, _⟩; rfl)
  | (rintro _ _ _ _ ⟨_, _, _, _, ⟨rfl, _⟩, _⟩; rfl)
  | (rintro _ _ _ _ ⟨_, _, _, _, _, ⟨rfl, _⟩, _⟩; rfl)
  | (rintro _ _ _ _ ⟨_, _, _, _, _, _, ⟨rfl, _⟩, _⟩; rfl)
  | (rintro _ _ _ _ ⟨_, _, _, _, _, _, _, ⟨rfl, _⟩, _⟩; rfl)
  | (rintro _ _ _ _ ⟨_, _, _, _, _, _, _, _, ⟨rfl, _⟩, _⟩; rfl)
  | (rintro _ _ _ _ ⟨_, _, _, ⟨rfl, _, _, _, _, _, _, _⟩, _⟩; rfl)
  | (rintro _ _ _ _ ⟨_, _, _, _, ⟨rfl, _, _, _, _, _, _, _⟩, _⟩; rfl)
  | (rintro _ _ _ _ ⟨_, _, _, _, _, ⟨rfl, _, _, _, _, _, _, _⟩, _⟩; rfl)
  | (rintro _ _ _ _ ⟨_, _, _, _, _, _, ⟨rfl, _, _, _, _, _, _, _⟩, _⟩; rfl)
  | (rintro _ _ _ _ ⟨_, _, _, _, _, _, _, ⟨rfl, _, _, _, _, _, _, _⟩, _⟩; rfl)
  | (rintro _ _ _ _ ⟨_, _, _, _, _, _, _, _, ⟨rfl, _, _, _, _, _, _, _⟩, _⟩; rfl)
theorem len_is_keep : ∀ ds ah q x, sp_is_keep ds ah q x → ds.length = 1 := by
  first
  | (rintro _ _ _ _ (⟨_, _, _, rfl, _⟩ | ⟨_, _, rfl, _⟩) <;> rfl)
  | (rintro _ _ _ _ ⟨rfl, _⟩; rfl)
  | (rintro _ _ _ _ ⟨_, rfl, _⟩; rfl)
  | (rintro _ _ _ _ ⟨_, _, rfl, _⟩; rfl)
  | (rintro _ _ _ _ ⟨_, _, _, rfl, _⟩; rfl)
  | (rintro _ _ _ _ ⟨_, _, _, _, rfl, _⟩; rfl)
  | (rintro _ _ _ _ ⟨_, _, _, _, _, rfl, _⟩; rfl)
  | (rintro _ _ _ _ ⟨_, _, _, _, _, _, rfl, _⟩; rfl)
  | (rintro _ _ _ _ ⟨_, _, _, _, _, _, _, rfl, _⟩; rfl)
  | (rintro _ _ _ _ ⟨_, _, _, _, _, _, _, _, rfl, _⟩; rfl)
  | (rintro _ _ _ _ ⟨_, _, _, _, _, _, _, _, _, rfl, _⟩; rfl)
  | (rintro _ _ _ _ ⟨_, _, _, _, _, _, _, _, _, _, rfl, _⟩; rfl)
  | (rintro _ _ _ _ ⟨_, _, _, ⟨rfl, _⟩, _⟩; rfl)
  | (rintro _ _ _ _ ⟨_, _, _, _, ⟨rfl, _⟩, _⟩; rfl)
  | (rintro _ _ _ _ ⟨_, _, _, _, _, ⟨rfl, _⟩, _⟩; rfl)
  | (rintro _ _ _ _ ⟨_, _, _, _, _, _, ⟨rfl, _⟩, _⟩; rfl)
  | (rintro _ _ _ _ ⟨_, _, _, _, _, _, _, ⟨rfl, _⟩, _⟩; rfl)
  | (rintro _ _ _ _ ⟨_, _, _, _, _, _, _, _, ⟨rfl, _⟩, _⟩; rfl)
  | (rintro _ _ _ _ ⟨_, _, _, ⟨rfl, _, _, _, _, _, _, _⟩, _⟩; rfl)
  | (rintro _ _ _ _ ⟨_, _, _, _, ⟨rfl, _, _, _, _, _, _, _⟩, _⟩; rfl)
  | (rintro _ _ _ _ ⟨_, _, _, _, _, ⟨rfl, _, _, _, _, _, _, _⟩, _⟩; rfl)
  | (rintro _ _ _ _ ⟨_, _, _, _, _, _, ⟨rfl, _, _, _, _, _, _, _⟩, _⟩; rfl)
  | (rintro _ _ _ _ ⟨_, _, _, _, _, _, _, ⟨rfl, _, _, _, _, _, _, _⟩, _⟩; rfl)
  | (rintro _ _ _ _ ⟨_, _, _, _, _, _, _, _, ⟨rfl, _, _, _, _, _, _, _⟩, _⟩; rfl)
theorem len_is_rule_in : ∀ ds ah q x, sp_is_rule_in ds ah q x → ds.length = 2 := by
  first
  | (rintro _ _ _ _ (⟨_, _, _, rfl, _⟩ | ⟨_, _, rfl, _⟩) <;> rfl)
  | (rintro _ _ _ _ ⟨rfl, _⟩; rfl)
  | (rintro _ _ _ _ ⟨_, rfl, _⟩; rfl)
  | (rintro _ _ _ _ ⟨_, _, rfl, _⟩; rfl)
  | (rintro _ _ _ _ ⟨_, _, _, rfl, _⟩; rfl)
  | (rintro _ _ _ _ ⟨_, _, _, _, rfl, _⟩; rfl)
  | (rintro _ _ _ _ ⟨_, _, _, _, _, rfl, _⟩; rfl)
  | (rintro _ _ _ _ ⟨_, _, _, _, _, _, rfl, _⟩; rfl)
  | (rintro _ _ _ _ ⟨_, _, _, _, _, _, _, rfl, _⟩; rfl)
  | (rintro _ _ _ _ ⟨_, _, _, _, _, _, _, _, rfl, _⟩; rfl)
  | (rintro _ _ _ _ ⟨_, _, _, _, _, _, _, _, _, rfl, _⟩; rfl)
  | (rintro _ _ _ _ ⟨_, _, _, _, _, _, _, _, _, _, rfl, _⟩; rfl)
  | (rintro _ _ _ _ ⟨_, _, _, ⟨rfl, _⟩, _⟩; rfl)
  | (rintro _ _ _ _ ⟨_, _, _, _, ⟨rfl, _⟩, _⟩; rfl)
  | (rintro _ _ _ _ ⟨_, _, _, _, _, ⟨rfl, _⟩, _⟩; rfl)
  | (rintro _ _ _ _ ⟨_, _, _, _, _, _, ⟨rfl, _⟩, _⟩; rfl)
  | (rintro _ _ _ _ ⟨_, _, _, _, _, _, _, ⟨rfl, _⟩, _⟩; rfl)
  | (rintro _ _ _ _ ⟨_, _, _, _, _, _, _, _, ⟨rfl, _⟩, _⟩; rfl)
  | (rintro _ _ _ _ ⟨_, _, _, ⟨rfl, _, _, _, _, _, _, _⟩, _⟩; rfl)
  | (rintro _ _ _ _ ⟨_, _, _, _, ⟨rfl, _, _, _, _, _, _, _⟩, _⟩; rfl)
  | (rintro _ _ _ _ ⟨_, _, _, _, _, ⟨rfl, _, _, _, _, _, _, _⟩, _⟩; rfl)
  | (rintro _ _ _ _ ⟨_, _, _, _, _, _, ⟨rfl, _, _, _, _, _, _, _⟩, _⟩; rfl)
  | (rintro _ _ _ _ ⟨_, _, _, _, _, _, _, ⟨rfl, _, _, _, _, _, _, _⟩, _⟩; rfl)
  | (rintro _ _ _ _ ⟨_, _, _, _, _, _, _, _, ⟨rfl, _, _, _, _, _, _, _⟩, _⟩; rfl)
theorem len_Style_of : ∀ ds ah q x, sp_Style_of ds ah q x → ds.length = 3 := by
  first
  | (rintro _ _ _ _ (⟨_, _, _, rfl, _⟩ | ⟨_, _, rfl, _⟩) <;> rfl)
  | (rintro _ _ _ _ ⟨rfl, _⟩; rfl)
  | (rintro _ _ _ _ ⟨_, rfl, _⟩; rfl)
  | (rintro _ _ _ _ ⟨_, _, rfl, _⟩; rfl)
  | (rintro _ _ _ _ ⟨_, _, _, rfl, _⟩; rfl)
  | (rintro _ _ _ _ ⟨_, _, _, _, rfl, _⟩; rfl)
  | (rintro _ _ _ _ ⟨_, _, _, _, _, rfl, _⟩; rfl)
  | (rintro _ _ _ _ ⟨_, _, _, _, _, _, rfl, _⟩; rfl)
  | (rintro _ _ _ _ ⟨_, _, _, _, _, _, _, rfl, _⟩; rfl)
  | (rintro _ _ _ _ ⟨_, _, _, _, _, _, _, _, rfl, _⟩; rfl)
  | (rintro _ _ _ _ ⟨_, _, _, _, _, _, _, _, _, rfl, _⟩; rfl)
  | (rintro _ _ _ _ ⟨_, _, _, _, _, _, _, _, _, _, rfl, _⟩; rfl)
  | (rintro _ _ _ _ ⟨_, _, _, ⟨rfl, _⟩, _⟩; rfl)
  | (rintro _ _ _ _ ⟨_, _, _, _, ⟨rfl, _⟩, _⟩; rfl)
  | (rintro _ _ _ _ ⟨_, _, _, _, _, ⟨rfl, _⟩, _⟩; rfl)
  | (rintro _ _ _ _ ⟨_, _, _, _, _, _, ⟨rfl, _⟩, _⟩; rfl)
  | (rintro _ _ _ _ ⟨_, _, _, _, _, _, _, ⟨rfl, _⟩, _⟩; rfl)
  | (rintro _ _ _ _ ⟨_, _, _, _, _, _, _, _, ⟨rfl, _⟩, _⟩; rfl)
  | (rintro _ _ _ _ ⟨_, _, _, ⟨rfl, _, _, _, _, _, _, _⟩, _⟩; rfl)
  | (rintro _ _ _ _ ⟨_, _, _, _, ⟨rfl, _, _, _, _, _, _, _⟩, _⟩; rfl)
  | (rintro _ _ _ _ ⟨_, _, _, _, _, ⟨rfl, _, _, _, _, _, _, _⟩, _⟩; rfl)
  | (rintro _ _ _ _ ⟨_, _, _, _, _, _, ⟨rfl, _, _, _, _, _, _, _⟩, _⟩; rfl)
  | (rintro _ _ _ _ ⟨_, _, _, _, _, _, _, ⟨rfl, _, _, _, _, _, _, _⟩, _⟩; rfl)
  | (rintro _ _ _ _ ⟨_, _, _, _, _, _, _, _, ⟨rfl, _, _, _, _, _, _, _⟩, _⟩; rfl)
theorem len_Style___len__ : ∀ ds ah q x, sp_Style___len__ ds ah q x → ds.length = 1 := by
  first
  | (rintro _ _ _ _ (⟨_, _, _, rfl, _⟩ | ⟨_, _, rfl, _⟩) <;> rfl)
  | (rintro _ _ _ _ ⟨rfl, _⟩; rfl)
  | (rintro _ _ _ _ ⟨_, rfl, _⟩; rfl)
  | (rintro _ _ _ _ ⟨_, _, rfl, _⟩; rfl)
  | (rintro _ _ _ _ ⟨_, _, _, rfl, _⟩; rfl)
  | (rintro _ _ _ _ ⟨_, _, _, _, rfl, _⟩; rfl)
  | (rintro _ _ _ _ ⟨_, _, _, _, _, rfl, _⟩; rfl)
  | (rintro _ _ _ _ ⟨_, _, _, _, _, _, rfl, _⟩; rfl)
  | (rintro _ _ _ _ ⟨_, _, _, _, _, _, _, rfl, _⟩; rfl)
  | (rintro _ _ _ _ ⟨_, _, _, _, _, _, _, _, rfl, _⟩; rfl)
  | (rintro _ _ _ _ ⟨_, _, _, _, _, _, _, _, _, rfl, _⟩; rfl)
  | (rintro _ _ _ _ ⟨_, _, _, _, _, _, _, _, _, _, rfl, _⟩; rfl)
  | (rintro _ _ _ _ ⟨_, _, _, ⟨rfl, _⟩, _⟩; rfl)
  | (rintro _ _ _ _ ⟨_, _, _, _, ⟨rfl, _⟩, _⟩; rfl)
  | (rintro _ _ _ _ ⟨_, _, _, _, _, ⟨rfl, _⟩, _⟩; rfl)
  | (rintro _ _ _ _ ⟨_, _, _, _, _, _, ⟨rfl, _⟩, _⟩; rfl)
  | (rintro _ _ _ _ ⟨_, _, _, _, _, _, _, ⟨rfl, _⟩, _⟩; rfl)
  | (rintro _ _ _ _ ⟨_, _, _, _, _, _, _, _, ⟨rfl, _⟩, _⟩; rfl)
  | (rintro _ _ _ _ ⟨_, _, _, ⟨rfl, _, _, _, _, _, _, _⟩, _⟩; rfl)
  | (rintro _ _ _ _ ⟨_, _, _, _, ⟨rfl, _, _, _, _, _, _, _⟩, _⟩; rfl)
  | (rintro _ _ _ _ ⟨_, _, _, _, _, ⟨rfl, _, _, _, _, _, _, _⟩, _⟩; rfl)
  | (rintro _ _ _ _ ⟨_, _, _, _, _, _, ⟨rfl, _, _, _, _, _, _, _⟩, _⟩; rfl)
  | (rintro _ _ _ _ ⟨_, _, _, _, _, _, _, ⟨rfl, _, _, _, _, _, _, _⟩, _⟩; rfl)
  | (rintro _ _ _ _ ⟨_, _, _, _, _, _, _, _, ⟨rfl, _, _, _, _, _, _, _⟩, _⟩; rfl)
theorem len_law : ∀ ds ah q x, sp_law ds ah q x → ds.length = 1 := by
  first
  | (rintro _ _ _ _ (⟨_, _, _, rfl, _⟩ | ⟨_, _, rfl, _⟩) <;> rfl)
  | (rintro _ _ _ _ ⟨rfl, _⟩; rfl)
  | (rintro _ _ _ _ ⟨_, rfl, _⟩; rfl)
  | (rintro _ _ _ _ ⟨_, _, rfl, _⟩; rfl)
  | (rintro _ _ _ _ ⟨_, _, _, rfl, _⟩; rfl)
  | (rintro _ _ _ _ ⟨_, _, _, _, rfl, _⟩; rfl)
  | (rintro _ _ _ _ ⟨_, _, _, _, _, rfl, _⟩; rfl)
  | (rintro _ _ _ _ ⟨_, _, _, _, _, _, rfl, _⟩; rfl)
  | (rintro _ _ _ _ ⟨_, _, _, _, _, _, _, rfl, _⟩; rfl)
  | (rintro _ _ _ _ ⟨_, _, _, _, _, _, _, _, rfl, _⟩; rfl)
  | (rintro _ _ _ _ ⟨_, _, _, _, _, _, _, _, _, rfl, _⟩; rfl)
  | (rintro _ _ _ _ ⟨_, _, _, _, _, _, _, _, _, _, rfl, _⟩; rfl)
  | (rintro _ _ _ _ ⟨_, _, _, ⟨rfl, _⟩, _⟩; rfl)
  | (rintro _ _ _ _ ⟨_, _, _, _, ⟨rfl, _⟩, _⟩; rfl)
  | (rintro _ _ _ _ ⟨_, _, _, _, _, ⟨rfl, _⟩, _⟩; rfl)
  | (rintro _ _ _ _ ⟨_, _, _, _, _, _, ⟨rfl, _⟩, _⟩; rfl)
  | (rintro _ _ _ _ ⟨_, _, _, _, _, _, _, ⟨rfl, _⟩, _⟩; rfl)
  | (rintro _ _ _ _ ⟨_, _, _, _, _, _, _, _, ⟨rfl, _⟩, _⟩; rfl)
  | (rintro _ _ _ _ ⟨_, _, _, ⟨rfl, _, _, _, _, _, _, _⟩, _⟩; rfl)
  | (rintro _ _ _ _ ⟨_, _, _, _, ⟨rfl, _, _, _, _, _, _, _⟩, _⟩; rfl)
  | (rintro _ _ _ _ ⟨_, _, _, _, _, ⟨rfl, _, _, _, _, _, _, _⟩, _⟩; rfl)
  | (rintro _ _ _ _ ⟨_, _, _, _, _, _, ⟨rfl, _, _, _, _, _, _, _⟩, _⟩; rfl)
  | (rintro _ _ _ _ ⟨_, _, _, _, _, _, _, ⟨rfl, _, _, _, _, _, _, _⟩, _⟩; rfl)
  | (rintro _ _ _ _ ⟨_, _, _, _, _, _, _, _, ⟨rfl, _, _, _, _, _, _, _⟩, _⟩; rfl)
theorem facts {P : Program} {w : World} {K : PySem.W.Frag} {h : Heap} {mg : Str → Option Value} {f : Addr} (X : K.In h) (G : h.Ns mainGlobals mg) (hfa : mg ("law" : Str) = some (.ref f)) {cs : List (Addr × Addr)} (ct : SaysT fa fn ex lamFs K cs h) :
    ∃ fd : FuncData, (∀ (s : Shared) (v : Value), BindsTo s fd ⟨[v], []⟩ [("script", v)]) ∧ ∀ base : Heap, K.In base → base.Ns mainGlobals mg → (∀ p ∈ cs, LamX.TabB base mg p.1 p.2) → DFn P w K mg base 9 f fd ["script"] sp_law := by
  have c := ct.says
  obtain ⟨fd__law_begin, F__law_begin⟩ := c.def_ 0 (d := dd__law_begin) rfl
  obtain ⟨fd__law_mixed, F__law_mixed⟩ := c.def_ 1 (d := dd__law_mixed) rfl
  obtain ⟨fd__law_draw, F__law_draw⟩ := c.def_ 2 (d := dd__law_draw) rfl
  obtain ⟨fd__law_condition, F__law_condition⟩ := c.def_ 3 (d := dd__law_condition) rfl
  obtain ⟨fd__law_keep, F__law_keep⟩ := c.def_ 4 (d := dd__law_keep) rfl
  obtain ⟨fd__law_rules, F__law_rules⟩ := c.def_ 5 (d := dd__law_rules) rfl
  obtain ⟨fd__law_of, F__law_of⟩ := c.def_ 6 (d := dd__law_of) rfl
  obtain ⟨fd__law_row, F__law_row⟩ := c.def_ 7 (d := dd__law_row) rfl
  obtain ⟨fd__law_due, F__law_due⟩ := c.def_ 8 (d := dd__law_due) rfl
  obtain ⟨fd__law_raised, F__law_raised⟩ := c.def_ 9 (d := dd__law_raised) rfl
  obtain ⟨fd_is_among, F_is_among⟩ := c.def_ 10 (d := dd_is_among) rfl
  obtain ⟨fd_need_base, F_need_base⟩ := c.def_ 11 (d := dd_need_base) rfl
  obtain ⟨fd_are_digits, F_are_digits⟩ := c.def_ 12 (d := dd_are_digits) rfl
  obtain ⟨fd_is_condition, F_is_condition⟩ := c.def_ 13 (d := dd_is_condition) rfl
  obtain ⟨fd_is_keep, F_is_keep⟩ := c.def_ 14 (d := dd_is_keep) rfl
  obtain ⟨fd_is_rule_in, F_is_rule_in⟩ := c.def_ 15 (d := dd_is_rule_in) rfl
  obtain ⟨fd_Style___init__, F_Style___init__⟩ := c.def_ 16 (d := dd_Style___init__) rfl
  obtain ⟨fd_Style_of, F_Style_of⟩ := c.def_ 17 (d := dd_Style_of) rfl
  obtain ⟨fd_Style___len__, F_Style___len__⟩ := c.def_ 18 (d := dd_Style___len__) rfl
  obtain ⟨fd_law, F_law⟩ := c.def_ 19 (d := dd_law) rfl
  obtain ⟨fd_BadBase___init__, F_BadBase___init__⟩ := c.def_ 20 (d := dd_BadBase___init__) rfl
  obtain ⟨fd_BadRule___init__, F_BadRule___init__⟩ := c.def_ 21 (d := dd_BadRule___init__) rfl
  obtain ⟨fd_Style_base, F_Style_base⟩ := c.def_ 22 (d := dd_Style_base) rfl
  obtain ⟨fd_Style_rules, F_Style_rules⟩ := c.def_ 23 (d := dd_Style_rules) rfl
  have e_law := He.glo_ok X G (c.fact 0 (f := .glo "law") rfl)
  have e := hfa.symm.trans e_law
  cases e
  have b := FunD.bindsA (ps := ["script"]) F_law fun _ _ _ _ _ _ us hl => match us, hl with | [_], _ => rfl
  refine ⟨fd_law, fun s v => b s [v] rfl, fun base _ _ TB => ?_⟩
  have CAT : CatK K rCs ["SpanError", "TooMany", "Missing", "NothingLeft"] := xCat_ok (c.more 0 (f := xCat rCs ["SpanError", "TooMany", "Missing", "NothingLeft"]) rfl)
  have KIN : KinKs K rCs rDs := xKin_ok (c.more 1 (f := xKin rCs rDs) rfl)
  have SM : SmK K := xSM_ok (c.more 2 (f := xSM) rfl)
  have XF_line : XfK K ["BadText"] "line" := xXf_ok (c.more 3 (f := xXf ["BadText"] "line") rfl)
  have XF_most : XfK K [] "most" := xXf_ok (c.more 4 (f := xXf [] "most") rfl)
  have XF_name : XfK K [] "name" := xXf_ok (c.more 5 (f := xXf [] "name") rfl)
  have XF_place : XfK K ["BadRule", "BadEntry"] "place" := xXf_ok (c.more 6 (f := xXf ["BadRule", "BadEntry"] "place") rfl)
  have XF_value : XfK K rVs "value" := xXf_ok (c.more 7 (f := xXf rVs "value") rfl)
  have XF_word : XfK K ["BadText"] "word" := xXf_ok (c.more 8 (f := xXf ["BadText"] "word") rfl)
  have f_Style_own_base : Cls K (He.ga K "Style") ∧ NoAttr K (He.ga K "Style") "own_base" := ⟨He.cls_ok (c.fact 1 (f := .cls "Style") rfl), He.noat_ok (c.fact 2 (f := .noat "Style" "own_base") rfl)⟩
  have f_Style_own_rules : Cls K (He.ga K "Style") ∧ NoAttr K (He.ga K "Style") "own_rules" := ⟨He.cls_ok (c.fact 1 (f := .cls "Style") rfl), He.noat_ok (c.fact 3 (f := .noat "Style" "own_rules") rfl)⟩
  have g_FIGURES := He.str_ok X G (c.fact 4 (f := .str "FIGURES" "0123456789") rfl)
  have g_LEAST_BASE := He.int_ok X G (c.fact 5 (f := .int "LEAST_BASE" 2) rfl)
  have g_MOST_BASE := He.int_ok X G (c.fact 6 (f := .int "MOST_BASE" 10) rfl)
  have g_MOST_CONDITIONS := He.int_ok X G (c.fact 7 (f := .int "MOST_CONDITIONS" 3) rfl)
  have g_MOST_ENDING := He.int_ok X G (c.fact 8 (f := .int "MOST_ENDING" 2) rfl)
  have g_MOST_RULES := He.int_ok X G (c.fact 9 (f := .int "MOST_RULES" 8) rfl)
  have g_MOST_SIZE := He.int_ok X G (c.fact 10 (f := .int "MOST_SIZE" 6) rfl)
  have gc_BadBase := He.glo_ok X G (c.fact 11 (f := .glo "BadBase") rfl)
  have gc_BadDigits := He.glo_ok X G (c.fact 12 (f := .glo "BadDigits") rfl)
  have gc_BadEntry := He.glo_ok X G (c.fact 13 (f := .glo "BadEntry") rfl)
  have gc_BadManner := He.glo_ok X G (c.fact 14 (f := .glo "BadManner") rfl)
  have gc_BadName := He.glo_ok X G (c.fact 15 (f := .glo "BadName") rfl)
  have gc_BadNumber := He.glo_ok X G (c.fact 16 (f := .glo "BadNumber") rfl)
  have gc_BadRange := He.glo_ok X G (c.fact 17 (f := .glo "BadRange") rfl)
  have gc_BadReader := He.glo_ok X G (c.fact 18 (f := .glo "BadReader") rfl)
  have gc_BadRule := He.glo_ok X G (c.fact 19 (f := .glo "BadRule") rfl)
  have gc_BadText := He.glo_ok X G (c.fact 20 (f := .glo "BadText") rfl)
  have gc_Missing := He.glo_ok X G (c.fact 21 (f := .glo "Missing") rfl)
  have gc_NothingLeft := He.glo_ok X G (c.fact 22 (f := .glo "NothingLeft") rfl)
  have gc_OtherBase := He.glo_ok X G (c.fact 23 (f := .glo "OtherBase") rfl)
  have gc_SpanError := He.glo_ok X G (c.fact 24 (f := .glo "SpanError") rfl)
  have gc_TooMany := He.glo_ok X G (c.fact 25 (f := .glo "TooMany") rfl)
  have m_all := He.free_ok X G (c.fact 26 (f := .free "all") rfl)
  have m_bool := He.free_ok X G (c.fact 27 (f := .free "bool") rfl)
  have m_enumerate := He.free_ok X G (c.fact 28 (f := .free "enumerate") rfl)
  have m_int := He.free_ok X G (c.fact 29 (f := .free "int") rfl)
  have m_isinstance := He.free_ok X G (c.fact 30 (f := .free "isinstance") rfl)
  have m_len := He.free_ok X G (c.fact 31 (f := .free "len") rfl)
  have m_list := He.free_ok X G (c.fact 32 (f := .free "list") rfl)
  have m_min := He.free_ok X G (c.fact 33 (f := .free "min") rfl)
  have m_range := He.free_ok X G (c.fact 34 (f := .free "range") rfl)
  have m_repr := He.free_ok X G (c.fact 35 (f := .free "repr") rfl)
  have m_str := He.free_ok X G (c.fact 36 (f := .free "str") rfl)
  have m_tuple := He.free_ok X G (c.fact 37 (f := .free "tuple") rfl)
  have m_SpanError := He.glo_ok X G (c.fact 24 (f := .glo "SpanError") rfl)
  have s_SpanError := xSup_ok (c.more 9 (f := xSup "SpanError") rfl)
  have m_BadBase := He.glo_ok X G (c.fact 11 (f := .glo "BadBase") rfl)
  have x_BadBase : ExcI P w K mg base "BadBase" ["value"] := excI_of m_BadBase (c.more 10 (f := xOex "BadBase") rfl) (c.more 11 (f := xInit "BadBase") rfl) (init1_of F_BadBase___init__ sc_BadBase___init__ (He.noat_ok (c.fact 38 (f := .noat "BadBase" "value") rfl)) (b_BadBase m_SpanError s_SpanError)) (F_BadBase___init__.bindsN fun _ _ _ _ _ _ us hl => match us, hl with | [_, _], _ => rfl)
  have m_BadRule := He.glo_ok X G (c.fact 19 (f := .glo "BadRule") rfl)
  have x_BadRule : ExcI P w K mg base "BadRule" ["place"] := excI_of m_BadRule (c.more 12 (f := xOex "BadRule") rfl) (c.more 13 (f := xInit "BadRule") rfl) (init1_of F_BadRule___init__ sc_BadRule___init__ (He.noat_ok (c.fact 39 (f := .noat "BadRule" "place") rfl)) (b_BadRule m_SpanError s_SpanError)) (F_BadRule___init__.bindsN fun _ _ _ _ _ _ us hl => match us, hl with | [_, _], _ => rfl)
  have p_Style_base : PropD K "Style" "base" "own_base" := propD_of (He.cls_ok (c.fact 1 (f := .cls "Style") rfl)) (c.more 14 (f := xProp "Style" "base") rfl) F_Style_base sc_Style_base rfl rfl (He.noat_ok (c.fact 2 (f := .noat "Style" "own_base") rfl)) (F_Style_base.bindsN fun _ _ _ _ _ _ us hl => match us, hl with | [_], _ => rfl)
  have p_Style_rules : PropD K "Style" "rules" "own_rules" := propD_of (He.cls_ok (c.fact 1 (f := .cls "Style") rfl)) (c.more 15 (f := xProp "Style" "rules") rfl) F_Style_rules sc_Style_rules rfl rfl (He.noat_ok (c.fact 3 (f := .noat "Style" "own_rules") rfl)) (F_Style_rules.bindsN fun _ _ _ _ _ _ us hl => match us, hl with | [_], _ => rfl)
  have h__law_begin : Has P w K mg base "_law_begin" 1 sp__law_begin := ⟨_, He.glo_ok X G (c.fact 40 (f := .glo "_law_begin") rfl), F__law_begin.kp, (mk_fnc F__law_begin (F__law_begin.bindsN fun _ _ _ _ _ _ us hl => match us, hl with | [_], _ => rfl) sc__law_begin len__law_begin (fun cdv A outer s H E hr => d__law_begin m_list hr) wp__law_begin)⟩
  have h__law_mixed : Has P w K mg base "_law_mixed" 1 sp__law_mixed := ⟨_, He.glo_ok X G (c.fact 41 (f := .glo "_law_mixed") rfl), F__law_mixed.kp, (mk_fnc F__law_mixed (F__law_mixed.bindsN fun _ _ _ _ _ _ us hl => match us, hl with | [_, _], _ => rfl) sc__law_mixed len__law_mixed (fun cdv A outer s H E hr => d__law_mixed m_int hr) wp__law_mixed)⟩
  have h__law_draw : Has P w K mg base "_law_draw" 2 sp__law_draw := ⟨_, He.glo_ok X G (c.fact 42 (f := .glo "_law_draw") rfl), F__law_draw.kp, (mk_fnc F__law_draw (F__law_draw.bindsN fun _ _ _ _ _ _ us hl => match us, hl with | [_, _], _ => rfl) sc__law_draw len__law_draw (fun cdv A outer s H E hr => d__law_draw h__law_mixed m_int m_len hr) wp__law_draw)⟩
  have h__law_condition : Has P w K mg base "_law_condition" 3 sp__law_condition := ⟨_, He.glo_ok X G (c.fact 43 (f := .glo "_law_condition") rfl), F__law_condition.kp, (mk_fnc F__law_condition (F__law_condition.bindsN fun _ _ _ _ _ _ us hl => match us, hl with | [_, _, _], _ => rfl) sc__law_condition len__law_condition (fun cdv A outer s H E hr => d__law_condition h__law_draw m_min m_range hr) wp__law_condition)⟩
  have h__law_keep : Has P w K mg base "_law_keep" 3 sp__law_keep := ⟨_, He.glo_ok X G (c.fact 44 (f := .glo "_law_keep") rfl), F__law_keep.kp, (mk_fnc F__law_keep (F__law_keep.bindsN fun _ _ _ _ _ _ us hl => match us, hl with | [_, _], _ => rfl) sc__law_keep len__law_keep (fun cdv A outer s H E hr => d__law_keep h__law_draw hr) wp__law_keep)⟩
  have h__law_rules : Has P w K mg base "_law_rules" 4 sp__law_rules := ⟨_, He.glo_ok X G (c.fact 45 (f := .glo "_law_rules") rfl), F__law_rules.kp, (mk_fnc F__law_rules (F__law_rules.bindsN fun _ _ _ _ _ _ us hl => match us, hl with | [_, _, _, _], _ => rfl) sc__law_rules len__law_rules (fun cdv A outer s H E hr => d__law_rules h__law_condition h__law_draw h__law_keep m_range m_tuple hr) wp__law_rules)⟩
  have h__law_of : Has P w K mg base "_law_of" 3 sp__law_of := ⟨_, He.glo_ok X G (c.fact 46 (f := .glo "_law_of") rfl), F__law_of.kp, (mk_fnc F__law_of (F__law_of.bindsN fun _ _ _ _ _ _ us hl => match us, hl with | [_, _], _ => rfl) sc__law_of len__law_of (fun cdv A outer s H E hr => d__law_of h__law_draw m_len hr) wp__law_of)⟩
  have h__law_row : Has P w K mg base "_law_row" 5 sp__law_row := ⟨_, He.glo_ok X G (c.fact 47 (f := .glo "_law_row") rfl), F__law_row.kp, (mk_fnc F__law_row (F__law_row.bindsN fun _ _ _ _ _ _ us hl => match us, hl with | [_, _, _], _ => rfl) sc__law_row len__law_row (fun cdv A outer s H E hr => d__law_row h__law_draw h__law_of h__law_rules m_len m_range hr) wp__law_row)⟩
  have h__law_due : Has P w K mg base "_law_due" 1 sp__law_due := ⟨_, He.glo_ok X G (c.fact 48 (f := .glo "_law_due") rfl), F__law_due.kp, (mk_fnc F__law_due (F__law_due.bindsN fun _ _ _ _ _ _ us hl => match us, hl with | [_, _], _ => rfl) sc__law_due len__law_due (fun cdv A outer s H E hr => d__law_due SM m_len m_range m_repr hr) wp__law_due)⟩
  have R__law_raised : HasR P w K mg base "_law_raised" "asked" 0 4 w__law_raised := ⟨_, _, _, _, _, _, He.glo_ok X G (c.fact 49 (f := .glo "_law_raised") rfl), F__law_raised, (F__law_raised.bindsN fun _ _ _ _ _ _ us hl => match us, hl with | [_], _ => rfl), sc__law_raised, rfl, .inl rfl, rfl, fun cdv A outer s H wA hr hA => d__law_raised CAT KIN XF_line XF_most XF_name XF_place XF_value XF_word gc_BadBase gc_BadDigits gc_BadEntry gc_BadManner gc_BadName gc_BadNumber gc_BadRange gc_BadReader gc_BadRule gc_BadText gc_Missing gc_NothingLeft gc_OtherBase gc_SpanError gc_TooMany m_isinstance m_len hr hA⟩
  have h_is_among : Has P w K mg base "is_among" 1 sp_is_among := ⟨_, He.glo_ok X G (c.fact 50 (f := .glo "is_among") rfl), F_is_among.kp, (mk_fnc F_is_among (F_is_among.bindsN fun _ _ _ _ _ _ us hl => match us, hl with | [_, _, _], _ => rfl) sc_is_among len_is_among (fun cdv A outer s H E hr => d_is_among m_bool m_int m_isinstance hr) wp_is_among)⟩
  have h_need_base : Has P w K mg base "need_base" 3 sp_need_base := ⟨_, He.glo_ok X G (c.fact 51 (f := .glo "need_base") rfl), F_need_base.kp, (mk_fnc F_need_base (F_need_base.bindsN fun _ _ _ _ _ _ us hl => match us, hl with | [_], _ => rfl) sc_need_base len_need_base (fun cdv A outer s H E hr => d_need_base g_LEAST_BASE g_MOST_BASE h_is_among x_BadBase hr) wp_need_base)⟩
  have h_are_digits : Has P w K mg base "are_digits" 1 sp_are_digits := ⟨_, He.glo_ok X G (c.fact 52 (f := .glo "are_digits") rfl), F_are_digits.kp, (mk_fnc F_are_digits (F_are_digits.bindsN fun _ _ _ _ _ _ us hl => match us, hl with | [_, _], _ => rfl) sc_are_digits len_are_digits (fun cdv A outer s H E hr => d_are_digits g_FIGURES m_all m_isinstance m_str hr) wp_are_digits)⟩
  have h_is_condition : Has P w K mg base "is_condition" 2 sp_is_condition := ⟨_, He.glo_ok X G (c.fact 53 (f := .glo "is_condition") rfl), F_is_condition.kp, (mk_fnc F_is_condition (F_is_condition.bindsN fun _ _ _ _ _ _ us hl => match us, hl with | [_, _], _ => rfl) sc_is_condition len_is_condition (fun cdv A outer s H E hr => d_is_condition g_MOST_ENDING g_MOST_SIZE h_are_digits h_is_among m_isinstance m_len m_str m_tuple hr) wp_is_condition)⟩
  have h_is_keep : Has P w K mg base "is_keep" 2 sp_is_keep := ⟨_, He.glo_ok X G (c.fact 54 (f := .glo "is_keep") rfl), F_is_keep.kp, (mk_fnc F_is_keep (F_is_keep.bindsN fun _ _ _ _ _ _ us hl => match us, hl with | [_], _ => rfl) sc_is_keep len_is_keep (fun cdv A outer s H E hr => d_is_keep g_MOST_SIZE h_is_among m_isinstance m_len m_str m_tuple hr) wp_is_keep)⟩
  have h_is_rule_in : Has P w K mg base "is_rule_in" 3 sp_is_rule_in := ⟨_, He.glo_ok X G (c.fact 55 (f := .glo "is_rule_in") rfl), F_is_rule_in.kp, (mk_fnc F_is_rule_in (F_is_rule_in.bindsN fun _ _ _ _ _ _ us hl => match us, hl with | [_, _], _ => rfl) sc_is_rule_in len_is_rule_in (fun cdv A outer s H E hr => d_is_rule_in g_MOST_CONDITIONS h_is_condition h_is_keep m_all m_isinstance m_len m_tuple hr) wp_is_rule_in)⟩
  have i_Style : HasI P w K mg base "Style" 4 (starSp 2 sp_Style___init__) := ⟨_, He.glo_ok X G (c.fact 56 (f := .glo "Style") rfl), He.mkr_ok (c.fact 57 (f := .mkr "Style") rfl), (fnc_star (ps := ["self", "base"]) (pv := "rules") F_Style___init__ sc_Style___init__ (fun _ _ _ _ _ _ us rest hl => match us, rest, hl with | [_, _], [], _ => rfl | [_, _], _ :: _, _ => rfl) (fun cdv A outer s H E hr => d_Style___init__ f_Style_own_base f_Style_own_rules g_MOST_RULES h_is_rule_in h_need_base m_enumerate m_len x_BadRule hr) wp_Style___init__)⟩
  have c_Style_of : HasC P w K mg base "Style" "of" 6 sp_Style_of := by
    obtain ⟨mc, q0, h1, h2⟩ := xCMet_ok (c.more 16 (f := xCMet "Style" "of") rfl)
    exact ⟨_, mc, q0, He.glo_ok X G (c.fact 56 (f := .glo "Style") rfl), h1, h2, (mk_fnc F_Style_of (F_Style_of.bindsN fun _ _ _ _ _ _ us hl => match us, hl with | [_, _, _], _ => rfl) sc_Style_of len_Style_of (fun cdv A outer s H E hr => d_Style_of h_need_base i_Style m_isinstance m_list m_tuple x_BadRule hr) wp_Style_of)⟩
  have h_Style___len__ : HasM P w K mg base "Style" "__len__" 1 sp_Style___len__ := ⟨_, He.cls_ok (c.fact 1 (f := .cls "Style") rfl), He.meth_ok (c.fact 58 (f := .meth "Style" "__len__") rfl), (mk_fnc F_Style___len__ (F_Style___len__.bindsN fun _ _ _ _ _ _ us hl => match us, hl with | [_], _ => rfl) sc_Style___len__ len_Style___len__ (fun cdv A outer s H E hr => d_Style___len__ f_Style_own_rules m_len hr) wp_Style___len__)⟩
  exact dfn_ofC F_law sc_law len_law (fun A outer s H E hr => d_law R__law_raised SM c_Style_of h_Style___len__ h__law_begin h__law_draw h__law_due h__law_of h__law_row i_Style m_len m_list m_min m_range m_repr p_Style_base p_Style_rules (ct.tabC TB (by decide)) hr) wp_law
end Z
open PySem PySem.W PySem.Calls PyProof.Rows
theorem PySem.Challenge.cw_shortspans_k05_whole_styles_refused_holds : PySem.Challenge.rw_shortspans_k05_whole_styles_refused.Holds := by
  w_on; o_law
  refine HandSHeadRun.head_any (r := Z.R) (q := view Z.R.prog [53]) (H := Z.hk) (ob := Z.ob) (M := 8000) (loose := Z.loose) (d := HandSHeadRun.topDef Z.R.prog 53) (kwd := []) Z.ob_eq
    (by kernel_rfl) (fun s => by kernel_rfl) Z.run (by kernel_rfl) (by kernel_rfl) (by kernel_rfl) (by rfl) (by first | assumption | decide +kernel) (by decide +kernel) ⟨rfl, rfl, rfl, rfl, rfl, by decide +kernel⟩ ?hw ?hc
  case hw => w_witness2
  case hc =>
    refine Z.walk_G (l := PySem.Challenge.rw_shortspans_k05_whole_styles_refused) (n := 63) (k := 9) (x := "script") (sp := Z.sp_law) rfl (by decide) (by kernel_rfl) ⟨rfl, by decide, by decide⟩ Z.law_start ?F
    intro w mg fa h Y G hmg0
    obtain ⟨K0, KX0, e0⟩ := Y
    have KX := Z.fil_in (fs := Z.lamFs) KX0
    have ct := Z.saysT_of KX0 e0
    have hmg : mg ("law" : PySem.Str) = some (.ref fa) := by
      have e : (HandSHeadRun.topDef Z.R.prog 53).name = ("law" : PySem.Str) := by kernel_rfl
      rw [← e]
      exact hmg0
    obtain ⟨fd, hb, hF⟩ := Z.facts (P := (PySem.Challenge.rw_shortspans_k05_whole_styles_refused).prog) (w := w) KX G hmg ct
    exact ⟨_, fd, _, KX, ct.all, ct.emp, ct.no, ct.hd, hb, hF⟩
