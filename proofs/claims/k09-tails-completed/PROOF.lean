import PyProof.Rows.All
import Wide.All
import OpenK.AllK
import Wide.FinOn
import KE.KStateDown
import HandS.ForMost
import HandS.ForExc
import HandS.Wide
import HandS.Defaults
import HandS.TupAny
import HandS.HeadHook1
import HandS.HeadHook2
import HandS.TupLe
import HandS.Style
import HandS.IsInst
import HandS.WordsDict
import HandS.WideBits
import HandS.Lambda
import HandS.Replace
import HandS.EndTab
import HandS.EndBits
import HandS.Head0
import HandS.Head1
import HandS.Head2
import HandS.HeadEnd
import HandS.More
import HandS.Words
import HandS.WordsExc
import PySem.Challenge.RW_shortspans_k09_whole_tails_completed
set_option Elab.async false
set_option linter.all false
set_option maxRecDepth 100000
set_option maxHeartbeats 0
/-! Z: a layer of data over the hand layer. -/
namespace Z
open PySem PySem.Spec PyProof.Rows L2

/-- data: what a value is, tuples as a whole; ref n: the n-th thing of the heap of data -/
inductive D where
  | non | bl (b : Bool) | int (i : Int) | str (s : Str) | ty (n : String) | glo (x : Str) | ref (n : Nat) | tup (l : List D) | frl (l : List D)

/-- things that change -/
inductive O where
  | lst (xs : List D)
  | dct (kvs : List (Key × D))
  | dcl (kvs : List (Key × D))
  | ins (C : Str) (fs : List (Str × D))
  | exc (C : Str) (fs : List (Str × D))
  | raw (h : HO)
abbrev AH := List O

/-- a list that nobody changes -/
def SqF (K : PySem.W.Frag) (H : Hp) (a : Addr) (xs : List V) : Prop :=
  (∃ o, H a = some (.frz o (.lst xs))) ∨
    ∃ (o : Obj) (its : Array Value) (n : Nat), K.lookup a = some o ∧ o.cls = .type "list" ∧ o.dict = none ∧ o.data = .seq its n ∧ its.size ≤ sizeLine ∧ Vals xs its.toList
theorem SqF.sq {K : PySem.W.Frag} {H : Hp} {a : Addr} {xs : List V} (h : SqF K H a xs) : SqL K H a xs := by
  rcases h with ⟨o, h⟩ | h
  · exact .inl (.inr ⟨o, h⟩)
  · exact .inr h

mutual
def Rep (K : PySem.W.Frag) (r : List Addr) (H : Hp) : D → V → Prop
  | .non, v => v = .non
  | .bl b, v => v = .bl b
  | .int i, v => v = .int i
  | .str s, v => v = .str s
  | .ty n, v => v = .ty n
  | .glo x, v => v = .ref (He.ga K x)
  | .ref n, v => ∃ a, r[n]? = some a ∧ v = .ref a
  | .tup l, v => ∃ a xs, v = .ref a ∧ SqT K H a xs ∧ Reps K r H l xs
  | .frl l, v => ∃ a xs, v = .ref a ∧ SqF K H a xs ∧ Reps K r H l xs
def Reps (K : PySem.W.Frag) (r : List Addr) (H : Hp) : List D → List V → Prop
  | [], vs => vs = []
  | d :: l, vs => ∃ v vr, vs = v :: vr ∧ Rep K r H d v ∧ Reps K r H l vr
end

def RepF (K : PySem.W.Frag) (r : List Addr) (H : Hp) {a : Type} : List (a × D) → List (a × V) → Prop
  | [], vs => vs = []
  | (k, d) :: l, vs => ∃ v vr, vs = (k, v) :: vr ∧ Rep K r H d v ∧ RepF K r H l vr

/-- what is kept from one moment to a later one -/
structure Kp (K : PySem.W.Frag) (r : List Addr) (H : Hp) (r' : List Addr) (H' : Hp) : Prop where
  pre : ∀ (n : Nat) (a : Addr), r[n]? = some a → r'[n]? = some a
  tup : ∀ a xs, SqT K H a xs → SqT K H' a xs
  frl : ∀ a xs, SqF K H a xs → SqF K H' a xs
  out : ∀ b o, b ∉ r → H b = some o → (∀ ps, o ≠ .tbl ps) → H' b = some o
  new : ∀ b, b ∈ r' → b ∈ r ∨ H b = none
  tb : ∀ b ps, H b = some (.tbl ps) → ∃ m, H' b = some (.tbl (ps ++ m))

section
variable {K : PySem.W.Frag} {r r' r2 : List Addr} {H H' H2 : Hp}
theorem Kp.refl : Kp K r H r H := ⟨fun _ _ h => h, fun _ _ h => h, fun _ _ h => h, fun _ _ _ h _ => h, fun _ h => .inl h, fun b ps h => ⟨#[], by rw [h]; simp⟩⟩
mutual
theorem Rep.mono3 (h1 : ∀ (n : Nat) (a : Addr), r[n]? = some a → r'[n]? = some a) (h2 : ∀ a xs, SqT K H a xs → SqT K H' a xs) (h3 : ∀ a xs, SqF K H a xs → SqF K H' a xs) : ∀ {d : D} {v : V}, Rep K r H d v → Rep K r' H' d v
  | .non, _, h => h
  | .bl _, _, h => h
  | .int _, _, h => h
  | .str _, _, h => h
  | .ty _, _, h => h
  | .glo _, _, h => h
  | .ref _, _, ⟨a, h, e⟩ => ⟨a, h1 _ _ h, e⟩
  | .tup l, _, ⟨a, xs, e, h, q⟩ => ⟨a, xs, e, h2 _ _ h, Reps.mono3 h1 h2 h3 q⟩
  | .frl l, _, ⟨a, xs, e, h, q⟩ => ⟨a, xs, e, h3 _ _ h, Reps.mono3 h1 h2 h3 q⟩
theorem Reps.mono3 (h1 : ∀ (n : Nat) (a : Addr), r[n]? = some a → r'[n]? = some a) (h2 : ∀ a xs, SqT K H a xs → SqT K H' a xs) (h3 : ∀ a xs, SqF K H a xs → SqF K H' a xs) : ∀ {l : List D} {vs : List V}, Reps K r H l vs → Reps K r' H' l vs
  | [], _, h => h
  | _ :: _, _, ⟨v, vr, e, h, q⟩ => ⟨v, vr, e, Rep.mono3 h1 h2 h3 h, Reps.mono3 h1 h2 h3 q⟩
end
theorem RepF.mono3 {a : Type} (h1 : ∀ (n : Nat) (a : Addr), r[n]? = some a → r'[n]? = some a) (h2 : ∀ a xs, SqT K H a xs → SqT K H' a xs) (h3 : ∀ a xs, SqF K H a xs → SqF K H' a xs) : ∀ {l : List (a × D)} {vs : List (a × V)}, RepF K r H l vs → RepF K r' H' l vs
  | [], _, h => h
  | (_, _) :: _, _, ⟨v, vr, e, h, q⟩ => ⟨v, vr, e, Rep.mono3 h1 h2 h3 h, RepF.mono3 h1 h2 h3 q⟩
theorem Rep.mono (k : Kp K r H r' H') {d : D} {v : V} (h : Rep K r H d v) : Rep K r' H' d v := h.mono3 k.pre k.tup k.frl
theorem Reps.mono (k : Kp K r H r' H') {d : List D} {v : List V} (h : Reps K r H d v) : Reps K r' H' d v := h.mono3 k.pre k.tup k.frl
theorem RepF.mono {a : Type} (k : Kp K r H r' H') {l : List (a × D)} {vs : List (a × V)} (h : RepF K r H l vs) : RepF K r' H' l vs := h.mono3 k.pre k.tup k.frl
theorem Reps.length : ∀ {l : List D} {vs : List V}, Reps K r H l vs → vs.length = l.length
  | [], _, h => by cases h; rfl
  | _ :: _, _, ⟨v, vr, e, h, q⟩ => by subst e; simp [Reps.length q]
theorem Reps.get : ∀ {l : List D} {vs : List V} {i : Nat} {d : D}, Reps K r H l vs → l[i]? = some d → ∃ v, vs[i]? = some v ∧ Rep K r H d v
  | [], _, i, d, h, e => by simp at e
  | x :: l, _, 0, d, ⟨v, vr, e, h, q⟩, e2 => by subst e; simp at e2; subst e2; exact ⟨v, rfl, h⟩
  | x :: l, _, i + 1, d, ⟨v, vr, e, h, q⟩, e2 => by
    subst e
    have := Reps.get (i := i) q (by simpa using e2)
    simpa using this
theorem Reps.get' : ∀ {l : List D} {vs : List V} {i : Nat} {v : V}, Reps K r H l vs → vs[i]? = some v → ∃ d, l[i]? = some d ∧ Rep K r H d v
  | [], _, i, d, h, e => by cases h; simp at e
  | x :: l, _, 0, d, ⟨v, vr, e, h, q⟩, e2 => by subst e; simp at e2; subst e2; exact ⟨x, rfl, h⟩
  | x :: l, _, i + 1, d, ⟨v, vr, e, h, q⟩, e2 => by
    subst e
    have := Reps.get' (i := i) q (by simpa using e2)
    simpa using this
theorem Reps.append : ∀ {l m : List D} {vs us : List V}, Reps K r H l vs → Reps K r H m us → Reps K r H (l ++ m) (vs ++ us)
  | [], _, _, _, h, q => by cases h; exact q
  | _ :: _, _, _, _, ⟨v, vr, e, h, q⟩, p => by subst e; exact ⟨v, _, rfl, h, Reps.append q p⟩
theorem Reps.one {d : D} {v : V} (h : Rep K r H d v) : Reps K r H [d] [v] := ⟨v, [], rfl, h, rfl⟩
theorem Reps.set : ∀ {l : List D} {vs : List V} (i : Nat) {d : D} {v : V}, Reps K r H l vs → Rep K r H d v → Reps K r H (l.set i d) (vs.set i v)
  | [], _, i, _, _, h, _ => by cases h; exact rfl
  | _ :: _, _, 0, _, _, ⟨v, vr, e, h, q⟩, p => by subst e; exact ⟨_, _, rfl, p, q⟩
  | _ :: _, _, i + 1, _, _, ⟨v, vr, e, h, q⟩, p => by subst e; exact ⟨_, _, rfl, h, Reps.set i q p⟩
theorem Reps.take : ∀ {l : List D} {vs : List V} (i : Nat), Reps K r H l vs → Reps K r H (l.take i) (vs.take i)
  | [], _, i, h => by cases h; simp [Reps]
  | _ :: _, _, 0, _ => rfl
  | _ :: _, _, i + 1, ⟨v, vr, e, h, q⟩ => by subst e; exact ⟨_, _, rfl, h, Reps.take i q⟩
theorem Reps.drop : ∀ {l : List D} {vs : List V} (i : Nat), Reps K r H l vs → Reps K r H (l.drop i) (vs.drop i)
  | [], _, i, h => by cases h; simp [Reps]
  | _ :: _, _, 0, h => h
  | _ :: _, _, i + 1, ⟨v, vr, e, h, q⟩ => by subst e; exact Reps.drop i q
theorem Reps.reverse : ∀ {l : List D} {vs : List V}, Reps K r H l vs → Reps K r H l.reverse vs.reverse
  | [], _, h => by cases h; exact rfl
  | _ :: _, _, ⟨v, vr, e, h, q⟩ => by
    subst e
    rw [List.reverse_cons, List.reverse_cons]
    exact (Reps.reverse q).append (Reps.one h)
theorem Reps.replicate (n : Nat) {d : D} {v : V} (h : Rep K r H d v) : Reps K r H (List.replicate n d) (List.replicate n v) := by
  induction n with
  | zero => exact rfl
  | succ n ih => exact ⟨v, _, rfl, h, ih⟩
theorem Reps.flat {l : List D} {vs : List V} (n : Nat) (h : Reps K r H l vs) : Reps K r H (List.replicate n l).flatten (List.replicate n vs).flatten := by
  induction n with
  | zero => exact rfl
  | succ n ih => simpa [List.replicate_succ] using h.append ih
theorem Reps.ints : ∀ (ns : List Int), Reps K r H (ns.map D.int) (ns.map V.int)
  | [] => rfl
  | n :: ns => ⟨.int n, _, rfl, rfl, Reps.ints ns⟩
theorem Reps.strs : ∀ (ns : List Str), Reps K r H (ns.map D.str) (ns.map V.str)
  | [] => rfl
  | n :: ns => ⟨.str n, _, rfl, rfl, Reps.strs ns⟩
theorem Reps.ints_of : ∀ {ns : List Int} {vs : List V}, Reps K r H (ns.map D.int) vs → vs = ns.map V.int
  | [], _, h => h
  | n :: ns, _, ⟨v, vr, e, h, q⟩ => by
    subst e
    have h' : v = .int n := h
    rw [h', Reps.ints_of q, List.map_cons]
theorem Reps.strs_of : ∀ {ns : List Str} {vs : List V}, Reps K r H (ns.map D.str) vs → vs = ns.map V.str
  | [], _, h => h
  | n :: ns, _, ⟨v, vr, e, h, q⟩ => by
    subst e
    have h' : v = .str n := h
    rw [h', Reps.strs_of q, List.map_cons]
theorem Reps.bls_of : ∀ {ns : List Bool} {vs : List V}, Reps K r H (ns.map D.bl) vs → vs = ns.map V.bl
  | [], _, h => h
  | n :: ns, _, ⟨v, vr, e, h, q⟩ => by
    subst e
    have h' : v = .bl n := h
    rw [h', Reps.bls_of q, List.map_cons]
end

/-- one thing of the heap of data, at its address -/
def ORep (K : PySem.W.Frag) (r : List Addr) (H : Hp) (a : Addr) : O → Prop
  | .lst xs => ∃ vs, H a = some (.lst vs) ∧ Reps K r H xs vs
  | .dct kvs => ∃ vs, H a = some (.dK vs) ∧ RepF K r H kvs vs
  | .dcl kvs => ∃ vs o, H a = some (.frz o (.dK vs)) ∧ RepF K r H kvs vs
  | .ins C fs => ∃ dx vs, H a = some (.ins (He.ga K C) dx vs) ∧ dx ∉ r ∧ H dx = some (.own a) ∧ RepF K r H fs vs
  | .exc C fs => ∃ dx vs, H a = some (.ext fun h => ∃ (oe : Obj) (gs : Array Value), h.get? a = some oe ∧ Zc (.ref (He.ga K C)) dx oe ∧ oe.data = .fields gs) ∧ (∀ d, dx = some d → d ∉ r ∧ H d = some (.xd vs)) ∧ (dx = none → vs = []) ∧ RepF K r H fs vs
  | .raw h => H a = some h ∧ (∀ xs, h ≠ .tup xs) ∧ (∀ o u, h ≠ .frz o u) ∧ (∀ ps, h ≠ .tbl ps)

structure HRep (K : PySem.W.Frag) (r : List Addr) (H : Hp) (ah : AH) : Prop where
  len : r.length = ah.length
  nd : r.Nodup
  ob : ∀ (n : Nat) (a : Addr) (o : O), r[n]? = some a → ah[n]? = some o → ORep K r H a o

section
variable {K : PySem.W.Frag} {r r' r2 : List Addr} {H H' H2 : Hp} {ah : AH}
theorem ORep.has {a : Addr} {o : O} (h : ORep K r H a o) : ∃ u, H a = some u ∧ (∀ xs, u ≠ .tup xs) ∧ (∀ o xs, u ≠ .frz o (.lst xs)) ∧ (∀ o xs, u ≠ .frz o (.tup xs)) ∧ (∀ ps, u ≠ .tbl ps) := by
  cases o with
  | lst xs => obtain ⟨vs, e, _⟩ := h; exact ⟨_, e, by simp, by simp, by simp, by simp⟩
  | dct xs => obtain ⟨vs, e, _⟩ := h; exact ⟨_, e, by simp, by simp, by simp, by simp⟩
  | dcl xs => obtain ⟨vs, o, e, _⟩ := h; exact ⟨_, e, by simp, by simp, by simp, by simp⟩
  | ins C xs => obtain ⟨dx, vs, e, _⟩ := h; exact ⟨_, e, by simp, by simp, by simp, by simp⟩
  | exc C xs => obtain ⟨dx, vs, e, _⟩ := h; exact ⟨_, e, by simp, by simp, by simp, by simp⟩
  | raw u => obtain ⟨e, h1, h2, h3⟩ := h; exact ⟨_, e, h1, fun _ _ => h2 _ _, fun _ _ => h2 _ _, h3⟩
theorem HRep.at_ (h : HRep K r H ah) {n : Nat} {a : Addr} (e : r[n]? = some a) : ∃ o, ah[n]? = some o ∧ ORep K r H a o := by
  obtain ⟨h1, _⟩ := List.getElem?_eq_some_iff.mp e
  have h2 : n < ah.length := by rw [← h.len]; exact h1
  exact ⟨ah[n], List.getElem?_eq_getElem h2, h.ob n a _ e (List.getElem?_eq_getElem h2)⟩
theorem HRep.adr (h : HRep K r H ah) {n : Nat} {o : O} (e : ah[n]? = some o) : ∃ a, r[n]? = some a ∧ ORep K r H a o := by
  obtain ⟨h1, _⟩ := List.getElem?_eq_some_iff.mp e
  have h2 : n < r.length := by rw [h.len]; exact h1
  exact ⟨r[n], List.getElem?_eq_getElem h2, h.ob n _ o (List.getElem?_eq_getElem h2) e⟩
theorem HRep.mem (h : HRep K r H ah) {a : Addr} (e : a ∈ r) : ∃ u, H a = some u ∧ (∀ xs, u ≠ .tup xs) ∧ (∀ o xs, u ≠ .frz o (.lst xs)) ∧ (∀ o xs, u ≠ .frz o (.tup xs)) ∧ (∀ ps, u ≠ .tbl ps) := by
  obtain ⟨n, hn⟩ := List.mem_iff_getElem?.mp e
  obtain ⟨o, _, q⟩ := h.at_ hn
  exact q.has
theorem HRep.fresh (h : HRep K r H ah) {p : Addr} (e : H p = none) : p ∉ r := fun z => by
  obtain ⟨u, e2, _⟩ := h.mem z
  rw [e] at e2; cases e2
theorem Kp.trans (h : Kp K r H r' H') (h2 : Kp K r' H' r2 H2) : Kp K r H r2 H2 := by
  refine ⟨fun n a e => h2.pre n a (h.pre n a e), fun a xs e => h2.tup a xs (h.tup a xs e), fun a xs e => h2.frl a xs (h.frl a xs e), fun b o nb e t => ?_, fun b hb => ?_, fun b ps e => ?_⟩
  · refine h2.out b o (fun z => ?_) (h.out b o nb e t) t
    rcases h.new b z with q | q
    · exact nb q
    · rw [e] at q; cases q
  · rcases h2.new b hb with q | q
    · exact h.new b q
    · by_cases hr' : b ∈ r
      · exact .inl hr'
      · refine .inr ?_
        cases e : H b with
        | none => rfl
        | some o =>
          by_cases t : ∃ ps, o = .tbl ps
          · obtain ⟨ps, rfl⟩ := t
            obtain ⟨m, z⟩ := h.tb b ps e
            rw [z] at q; cases q
          · rw [h.out b o hr' e (fun ps z => t ⟨ps, z⟩)] at q; cases q
  · obtain ⟨m, z⟩ := h.tb b ps e
    obtain ⟨m2, z2⟩ := h2.tb b _ z
    exact ⟨m ++ m2, by rw [z2, Array.append_assoc]⟩
end

/-! ### the heap grows, is written -/
section
variable {K : PySem.W.Frag} {r r' r2 : List Addr} {H H' H2 : Hp} {ah : AH} {p a : Addr} {u : HO} {o : O} {n : Nat}
theorem sqT_new (hp : H p = none) {b : Addr} {xs : List V} (h : SqT K H b xs) : SqT K (upd H p u) b xs := by
  rcases h with h | h
  · refine .inl ?_
    rcases h with h | ⟨o, h⟩
    · exact .inl (by rw [upd_ne (ne_of_none h hp)]; exact h)
    · exact .inr ⟨o, by rw [upd_ne (ne_of_none h hp)]; exact h⟩
  · exact .inr h
theorem sqF_new (hp : H p = none) {b : Addr} {xs : List V} (h : SqF K H b xs) : SqF K (upd H p u) b xs := by
  rcases h with ⟨o, h⟩ | h
  · exact .inl ⟨o, by rw [upd_ne (ne_of_none h hp)]; exact h⟩
  · exact .inr h
theorem Kp.new_ (hp : H p = none) : Kp K r H r (upd H p u) :=
  ⟨fun _ _ h => h, fun _ _ h => sqT_new hp h, fun _ _ h => sqF_new hp h, fun b o _ e _ => by rw [upd_ne (ne_of_none e hp)]; exact e, fun _ h => .inl h, fun b ps e => ⟨#[], by rw [upd_ne (ne_of_none e hp), e]; simp⟩⟩
theorem Kp.push (hp : H p = none) : Kp K r H (r ++ [p]) (upd H p u) :=
  ⟨fun n a h => by rw [List.getElem?_append_left (List.getElem?_eq_some_iff.mp h).1]; exact h, fun _ _ h => sqT_new hp h, fun _ _ h => sqF_new hp h, fun b o _ e _ => by rw [upd_ne (ne_of_none e hp)]; exact e,
    fun b h => (List.mem_append.mp h).imp id fun z => by rw [List.mem_singleton.mp z]; exact hp, fun b ps e => ⟨#[], by rw [upd_ne (ne_of_none e hp), e]; simp⟩⟩
theorem Kp.write (h : HRep K r H ah) (ha : a ∈ r) : Kp K r H r (upd H a u) := by
  obtain ⟨w, e, n1, n2, n3, n4⟩ := h.mem ha
  refine ⟨fun _ _ h => h, fun b xs q => ?_, fun b xs q => ?_, fun b o nb e _ => ?_, fun _ h => .inl h, fun b ps q => ⟨#[], ?_⟩⟩
  · rcases q with q | q
    · refine .inl ?_
      rcases q with q | ⟨o, q⟩
      · exact .inl (by rw [upd_ne (fun z => by rw [z, e] at q; exact n1 xs (Option.some.inj q))]; exact q)
      · exact .inr ⟨o, by rw [upd_ne (fun z => by rw [z, e] at q; exact n3 o xs (Option.some.inj q))]; exact q⟩
    · exact .inr q
  · rcases q with ⟨o, q⟩ | q
    · exact .inl ⟨o, by rw [upd_ne (fun z => by rw [z, e] at q; exact n2 o xs (Option.some.inj q))]; exact q⟩
    · exact .inr q
  · rw [upd_ne (fun z => nb (by rw [z]; exact ha))]; exact e
  · rw [upd_ne (fun z => by rw [z, e] at q; exact n4 ps (Option.some.inj q)), q]; simp
theorem ORep.keep (k : Kp K r H r' H') (e : H' a = H a) (h : ORep K r H a o) : ORep K r' H' a o := by
  have no : ∀ d u, d ∉ r → H d = some u → d ∉ r' := fun d u h1 h2 z => by
    rcases k.new d z with q | q
    · exact h1 q
    · rw [h2] at q; cases q
  cases o with
  | lst xs => obtain ⟨vs, q, w⟩ := h; exact ⟨vs, e.trans q, w.mono k⟩
  | dct xs => obtain ⟨vs, q, w⟩ := h; exact ⟨vs, e.trans q, w.mono k⟩
  | dcl xs => obtain ⟨vs, o, q, w⟩ := h; exact ⟨vs, o, e.trans q, w.mono k⟩
  | ins C xs => obtain ⟨dx, vs, q, h1, h2, w⟩ := h; exact ⟨dx, vs, e.trans q, no dx _ h1 h2, k.out dx _ h1 h2 (by simp), w.mono k⟩
  | exc C xs =>
    obtain ⟨dx, vs, q, h1, h2, w⟩ := h
    exact ⟨dx, vs, e.trans q, fun d hd => ⟨no d _ (h1 d hd).1 (h1 d hd).2, k.out d _ (h1 d hd).1 (h1 d hd).2 (by simp)⟩, h2, w.mono k⟩
  | raw u => obtain ⟨q, w⟩ := h; exact ⟨e.trans q, w⟩
theorem HRep.new_ (h : HRep K r H ah) (hp : H p = none) : HRep K r (upd H p u) ah :=
  ⟨h.len, h.nd, fun n a o e1 e2 => (h.ob n a o e1 e2).keep (Kp.new_ hp) (upd_ne (fun z => h.fresh hp (z ▸ List.mem_of_getElem? e1)))⟩
theorem HRep.push (h : HRep K r H ah) (hp : H p = none) (q : ORep K (r ++ [p]) (upd H p u) p o) : HRep K (r ++ [p]) (upd H p u) (ah ++ [o]) := by
  refine ⟨by simp [h.len], ?_, fun n a o' e1 e2 => ?_⟩
  · rw [List.nodup_append]
    exact ⟨h.nd, by simp, fun x hx y hy z => h.fresh hp (by rw [← List.mem_singleton.mp hy, ← z]; exact hx)⟩
  · by_cases hn : n < r.length
    · rw [List.getElem?_append_left hn] at e1
      rw [List.getElem?_append_left (by rw [← h.len]; exact hn)] at e2
      exact (h.ob n a o' e1 e2).keep (Kp.push hp) (upd_ne (fun z => h.fresh hp (z ▸ List.mem_of_getElem? e1)))
    · rw [List.getElem?_append_right (by omega)] at e1
      rw [List.getElem?_append_right (by rw [← h.len]; omega)] at e2
      rw [h.len] at e1
      cases m : n - ah.length with
      | zero => rw [m] at e1 e2; cases e1; cases e2; exact q
      | succ k => rw [m] at e1; simp at e1
theorem HRep.set (h : HRep K r H ah) (ha : r[n]? = some a) (q : ORep K r (upd H a u) a o) : HRep K r (upd H a u) (ah.set n o) := by
  refine ⟨by simp [h.len], h.nd, fun m b o' e1 e2 => ?_⟩
  by_cases hm : m = n
  · subst hm
    rw [ha] at e1; cases e1
    have : m < ah.length := by rw [← h.len]; exact (List.getElem?_eq_some_iff.mp ha).1
    rw [List.getElem?_set_self this] at e2; cases e2
    exact q
  · rw [List.getElem?_set_ne (Ne.symm hm)] at e2
    have nb : b ≠ a := fun z => hm (by
      subst z
      obtain ⟨h1, x1⟩ := List.getElem?_eq_some_iff.mp e1
      obtain ⟨h2, x2⟩ := List.getElem?_eq_some_iff.mp ha
      exact (List.getElem_inj h.nd).mp (x1.trans x2.symm))
    exact (h.ob m b o' e1 e2).keep (Kp.write h (List.mem_of_getElem? ha)) (upd_ne nb)
end

/-! ### slots -/
abbrev En := List (Option D)
def gt : En → Nat → Option D
  | [], _ => none
  | o :: _, 0 => o
  | _ :: l, n + 1 => gt l n
def st : En → Nat → D → En
  | [], _, _ => []
  | _ :: l, 0, d => some d :: l
  | o :: l, n + 1, d => o :: st l n d
def no : En → Nat → En
  | [], _ => []
  | _ :: l, 0 => none :: l
  | o :: l, n + 1 => o :: no l n
def nos : En → List Nat → En
  | e, [] => e
  | e, i :: l => no (nos e l) i
def ERep (K : PySem.W.Frag) (r : List Addr) (H : Hp) : En → L2.St → Prop
  | [], s => s = []
  | o :: l, s => ∃ u t, s = u :: t ∧ (∀ d, o = some d → ∃ v, u = some v ∧ Rep K r H d v) ∧ ERep K r H l t
section
variable {K : PySem.W.Frag} {r r' r2 : List Addr} {H H' H2 : Hp} {ah : AH}
theorem ERep.get : ∀ {env : En} {s : L2.St} {i : Nat} {d : D}, ERep K r H env s → gt env i = some d → ∃ v, s[i]? = some (some v) ∧ Rep K r H d v
  | [], _, _, _, _, e => by cases e
  | o :: l, _, 0, d, ⟨u, t, e, h, _⟩, e2 => by
    subst e
    obtain ⟨v, e3, q⟩ := h d e2
    exact ⟨v, by rw [e3]; rfl, q⟩
  | o :: l, _, i + 1, d, ⟨u, t, e, h, q⟩, e2 => by
    subst e
    obtain ⟨v, e3, p⟩ := ERep.get (i := i) q e2
    exact ⟨v, by simpa using e3, p⟩
theorem ERep.set : ∀ {env : En} {s : L2.St} (i : Nat) {d : D} {v : V}, ERep K r H env s → Rep K r H d v → ERep K r H (Z.st env i d) (s.set i (some v))
  | [], _, _, _, _, h, _ => by cases h; exact rfl
  | o :: l, _, 0, d, v, ⟨u, t, e, h, q⟩, p => by
    subst e
    exact ⟨some v, t, rfl, fun d' e' => by cases e'; exact ⟨v, rfl, p⟩, q⟩
  | o :: l, _, i + 1, d, v, ⟨u, t, e, h, q⟩, p => by
    subst e
    exact ⟨u, _, rfl, h, ERep.set i q p⟩
theorem ERep.no : ∀ {env : En} {s : L2.St} (i : Nat) (x : Option V), ERep K r H env s → ERep K r H (Z.no env i) (s.set i x)
  | [], _, _, _, h => by cases h; exact rfl
  | o :: l, _, 0, x, ⟨u, t, e, h, q⟩ => by
    subst e
    exact ⟨x, t, rfl, fun d' e' => (nomatch e'), q⟩
  | o :: l, _, i + 1, x, ⟨u, t, e, h, q⟩ => by
    subst e
    exact ⟨u, _, rfl, h, ERep.no i x q⟩
theorem ERep.wipe {env : En} {s : L2.St} (h : ERep K r H env s) : ∀ l : List Nat, ERep K r H (nos env l) (L2.wipe s l)
  | [] => h
  | i :: l => by unfold nos L2.wipe; exact (ERep.wipe h l).no i none
theorem ERep.mono (k : Kp K r H r' H') : ∀ {env : En} {s : L2.St}, ERep K r H env s → ERep K r' H' env s
  | [], _, h => h
  | o :: l, _, ⟨u, t, e, h, q⟩ => ⟨u, t, e, fun d e => by obtain ⟨v, e1, q⟩ := h d e; exact ⟨v, e1, q.mono k⟩, ERep.mono k q⟩
theorem ERep.start : ∀ {ds : List D} {vs : List V} (m : Nat), Reps K r H ds vs → ERep K r H (ds.map some ++ List.replicate m none) (vs.map some ++ List.replicate m none)
  | [], _, m, h => by
    cases h
    show ERep K r H (List.replicate m none) (List.replicate m none)
    induction m with
    | zero => exact rfl
    | succ m ih => exact ⟨none, _, rfl, fun d e => (nomatch e), ih⟩
  | d :: ds, _, m, ⟨v, vr, e, h, q⟩ => by
    subst e
    exact ⟨some v, _, rfl, fun d' e => by cases e; exact ⟨v, rfl, h⟩, ERep.start m q⟩
end

/-! ### the judgements -/
/-- an exception: its class and fields -/
abbrev XD := Str × List (Str × D)
abbrev QE := D → AH → Prop
abbrev QX := XD → AH → Prop
abbrev QXS := XD → En → AH → Prop
abbrev WE := En → AH → QE → QX → Prop
abbrev WT := En → AH → (Bool → AH → Prop) → QX → Prop
abbrev WA := En → AH → (List D → AH → Prop) → QX → Prop
structure DEnds where
  nx : En → AH → Prop
  rt : QE
  bk : En → AH → Prop := fun _ _ => False
  ct : En → AH → Prop := fun _ _ => False
abbrev WS := En → AH → DEnds → QXS → Prop
abbrev DSp := List D → AH → QE → QX → Prop
def XRep (K : PySem.W.Frag) (r : List Addr) (H : Hp) (fs : List (Str × D)) (dx : Option Addr) : Prop :=
  (∃ d vs, dx = some d ∧ d ∉ r ∧ H d = some (.xd vs) ∧ RepF K r H fs vs) ∨ (dx = none ∧ fs = [])
def Cn (K : PySem.W.Frag) (r : List Addr) (H : Hp) (q : QE) (Q : VK) : Prop := ∀ d ah, q d ah → ∀ r' H' v, Kp K r H r' H' → HRep K r' H' ah → Rep K r' H' d v → Q v H'
def CnT (K : PySem.W.Frag) (r : List Addr) (H : Hp) (q : Bool → AH → Prop) (Q : Bool → Hp → Prop) : Prop := ∀ d ah, q d ah → ∀ r' H', Kp K r H r' H' → HRep K r' H' ah → Q d H'
def CnA (K : PySem.W.Frag) (r : List Addr) (H : Hp) (q : List D → AH → Prop) (Q : List V → Hp → Prop) : Prop := ∀ d ah, q d ah → ∀ r' H' v, Kp K r H r' H' → HRep K r' H' ah → Reps K r' H' d v → Q v H'
def CnX (K : PySem.W.Frag) (r : List Addr) (H : Hp) (x : QX) (E : XK) : Prop := ∀ C fs ah, x (C, fs) ah → ∀ r' H' dx, Kp K r H r' H' → HRep K r' H' ah → XRep K r' H' fs dx → E (.ref (He.ga K C)) dx H'
def CnS (K : PySem.W.Frag) (r : List Addr) (H : Hp) (q : En → AH → Prop) (Q : L2.St → Hp → Prop) : Prop := ∀ env ah, q env ah → ∀ r' H' s, Kp K r H r' H' → HRep K r' H' ah → ERep K r' H' env s → Q s H'
def CnXS (K : PySem.W.Frag) (r : List Addr) (H : Hp) (x : QXS) (W : WX) : Prop := ∀ C fs env ah, x (C, fs) env ah → ∀ r' H' s dx, Kp K r H r' H' → HRep K r' H' ah → ERep K r' H' env s → XRep K r' H' fs dx → W (.ref (He.ga K C)) dx s H'
section
variable {K : PySem.W.Frag} {r r' : List Addr} {H H' : Hp}
theorem Cn.step (k : Kp K r H r' H') {q : QE} {Q : VK} (h : Cn K r H q Q) : Cn K r' H' q Q := fun d ah a r2 H2 v k2 => h d ah a r2 H2 v (k.trans k2)
theorem CnT.step (k : Kp K r H r' H') {q : Bool → AH → Prop} {Q : Bool → Hp → Prop} (h : CnT K r H q Q) : CnT K r' H' q Q := fun d ah a r2 H2 k2 => h d ah a r2 H2 (k.trans k2)
theorem CnA.step (k : Kp K r H r' H') {q : List D → AH → Prop} {Q : List V → Hp → Prop} (h : CnA K r H q Q) : CnA K r' H' q Q := fun d ah a r2 H2 v k2 => h d ah a r2 H2 v (k.trans k2)
theorem CnX.step (k : Kp K r H r' H') {x : QX} {E : XK} (h : CnX K r H x E) : CnX K r' H' x E := fun C fs ah a r2 H2 v k2 => h C fs ah a r2 H2 v (k.trans k2)
theorem CnS.step (k : Kp K r H r' H') {q : En → AH → Prop} {Q : L2.St → Hp → Prop} (h : CnS K r H q Q) : CnS K r' H' q Q := fun d ah a r2 H2 v k2 => h d ah a r2 H2 v (k.trans k2)
theorem CnXS.step (k : Kp K r H r' H') {x : QXS} {W : WX} (h : CnXS K r H x W) : CnXS K r' H' x W := fun C fs e ah a r2 H2 s v k2 => h C fs e ah a r2 H2 s v (k.trans k2)
theorem Cn.here {q : QE} {Q : VK} {d : D} {ah : AH} {v : V} (h : Cn K r H q Q) (a : q d ah) (hr : HRep K r H ah) (e : Rep K r H d v) : Q v H := h d ah a r H v Kp.refl hr e
end
def LE (K : PySem.W.Frag) (w : WE) (W : WX) : TE := fun s H Q => ∃ r env ah q x, ERep K r H env s ∧ HRep K r H ah ∧ w env ah q x ∧ Cn K r H q Q ∧ CnX K r H x (fun c d H' => W c d s H')
def LT (K : PySem.W.Frag) (w : WT) (W : WX) : TT := fun s H Q => ∃ r env ah q x, ERep K r H env s ∧ HRep K r H ah ∧ w env ah q x ∧ CnT K r H q Q ∧ CnX K r H x (fun c d H' => W c d s H')
def LA (K : PySem.W.Frag) (w : WA) (W : WX) : TA := fun s H Q => ∃ r env ah q x, ERep K r H env s ∧ HRep K r H ah ∧ w env ah q x ∧ CnA K r H q Q ∧ CnX K r H x (fun c d H' => W c d s H')
structure CnD (K : PySem.W.Frag) (r : List Addr) (H : Hp) (dn : DEnds) (Dn : Ends) : Prop where
  nx : CnS K r H dn.nx Dn.nx
  rt : Cn K r H dn.rt Dn.rt
  bk : CnS K r H dn.bk Dn.bk
  ct : CnS K r H dn.ct Dn.ct
theorem CnD.step {K : PySem.W.Frag} {r r' : List Addr} {H H' : Hp} (k : Kp K r H r' H') {dn : DEnds} {Dn : Ends} (h : CnD K r H dn Dn) : CnD K r' H' dn Dn := ⟨h.nx.step k, h.rt.step k, h.bk.step k, h.ct.step k⟩
def LS (K : PySem.W.Frag) (w : WS) (W : WX) : TS := fun Dn s H => ∃ r env ah dn x, ERep K r H env s ∧ HRep K r H ah ∧ w env ah dn x ∧ CnD K r H dn Dn ∧ CnXS K r H x W
def DE (X : Cx) (e : Expr) (w : WE) : Prop := ∀ W, Takes X W → PE X e (LE X.K w W)
def DT (X : Cx) (e : Expr) (w : WT) : Prop := ∀ W, Takes X W → PT X e (LT X.K w W)
def DWt (X : Cx) (e : Expr) (w : WT) : Prop := ∀ W, Takes X W → PW X e (LT X.K w W)
def DA (X : Cx) (es : List Expr) (w : WA) : Prop := ∀ W, Takes X W → PA X es (LA X.K w W)
def DS (X : Cx) (st : Stmt) (w : WS) : Prop := ∀ W, Takes X W → PS X st (LS X.K w W)
def DSs (X : Cx) (st : List Stmt) (w : WS) : Prop := ∀ W, Takes X W → PSs X st (LS X.K w W)
theorem _root_.L2.PE.weak {X : Cx} {e : Expr} {t t' : TE} (h : PE X e t) (i : ∀ s H Q, t' s H Q → t s H Q) : PE X e t' := ⟨fun pins s σ H Q I q => h.run pins s σ H Q I (i σ H Q q)⟩
theorem _root_.L2.PT.weak {X : Cx} {e : Expr} {t t' : TT} (h : PT X e t) (i : ∀ s H Q, t' s H Q → t s H Q) : PT X e t' := ⟨fun pins s σ H Q I q => h.run pins s σ H Q I (i σ H Q q)⟩
theorem _root_.L2.PW.weak {X : Cx} {e : Expr} {t t' : TT} (h : PW X e t) (i : ∀ s H Q, t' s H Q → t s H Q) : PW X e t' := ⟨fun wh pins s σ H Q I q => h.run wh pins s σ H Q I (i σ H Q q)⟩
theorem _root_.L2.PA.weak {X : Cx} {e : List Expr} {t t' : TA} (h : PA X e t) (i : ∀ s H Q, t' s H Q → t s H Q) : PA X e t' := ⟨fun pos pins s σ H Q I q => h.run pos pins s σ H Q I (i σ H Q q)⟩
theorem _root_.L2.PS.weak {X : Cx} {e : Stmt} {t t' : TS} (h : PS X e t) (i : ∀ D s H, t' D s H → t D s H) : PS X e t' := ⟨fun pins s σ H Q I q => h.run pins s σ H Q I (i Q σ H q)⟩
theorem _root_.L2.PSs.weak {X : Cx} {e : List Stmt} {t t' : TS} (h : PSs X e t) (i : ∀ D s H, t' D s H → t D s H) : PSs X e t' := ⟨fun pins s σ H Q I q => h.run pins s σ H Q I (i Q σ H q)⟩
end Z
namespace Z
open PySem PySem.Spec PyProof.Rows L2
section
variable {X : Cx} {K : PySem.W.Frag} {pos : Pos} {a b c e : Expr} {wa wb wc we : WE} {ta tb tc : WT}

/-! ### names and constants -/
def wVar (i : Nat) : WE := fun env ah q _ => match gt env i with
  | some d => q d ah
  | none => False
theorem de_var {i : Nat} {x : Str} (hN : X.N[i]? = some x) (hv : Vis X.env.scope x) (hd : (x == ("__debug__" : Str)) = false := by decide) (hcd : (x == ("__classdict__" : Str)) = false := by decide) : DE X (.Name x pos) (wVar i) := fun W _ =>
  (pe_var hN hv hd hcd).weak fun s H Q ⟨r, env, ah, q, x, he, hh, hw, hq, hx⟩ => by
    unfold wVar at hw
    cases g : gt env i with
    | none => rw [g] at hw; exact hw.elim
    | some d =>
      rw [g] at hw
      obtain ⟨v, e1, p⟩ := he.get g
      exact ⟨v, e1, hq.here hw hh p⟩
def wC (d : D) : WE := fun _ ah q _ => q d ah
theorem de_c {d : D} {v : V} (h : PE X e (tC v)) (hd : ∀ r H, Rep X.K r H d v) : DE X e (wC d) := fun W _ =>
  h.weak fun s H Q ⟨r, env, ah, q, x, he, hh, hw, hq, hx⟩ => hq.here hw hh (hd r H)
theorem de_int {i : Int} {j : Nat} : DE X (.Constant (.int i) j pos) (wC (.int i)) := de_c pe_int fun _ _ => rfl
theorem de_bl {i : Bool} {j : Nat} : DE X (.Constant (.bool i) j pos) (wC (.bl i)) := de_c pe_bl fun _ _ => rfl
theorem de_str {i : Str} {j : Nat} : DE X (.Constant (.str i) j pos) (wC (.str i)) := de_c pe_str fun _ _ => rfl
theorem de_non {j : Nat} : DE X (.Constant .none j pos) (wC .non) := de_c pe_non fun _ _ => rfl
theorem de_gint {x : Str} {i : Int} (hg : Gl X x) (hm : ∃ t, X.mg x = some (.int i t)) (hd : (x == ("__debug__" : Str)) = false := by decide) : DE X (.Name x pos) (wC (.int i)) := by
  obtain ⟨t, hm⟩ := hm
  exact de_c (pe_glob (v := .int i) hg hm ⟨t, rfl⟩ hd) fun _ _ => rfl
theorem de_gstr {x : Str} {i : Str} (hg : Gl X x) (hm : ∃ t, X.mg x = some (.str i t)) (hd : (x == ("__debug__" : Str)) = false := by decide) : DE X (.Name x pos) (wC (.str i)) := by
  obtain ⟨t, hm⟩ := hm
  exact de_c (pe_glob (v := .str i) hg hm ⟨t, rfl⟩ hd) fun _ _ => rfl
theorem de_glo {x : Str} (hg : Gl X x) (hm : X.mg x = some (.ref (He.ga X.K x))) (hd : (x == ("__debug__" : Str)) = false := by decide) : DE X (.Name x pos) (wC (.glo x)) :=
  de_c (pe_glob (v := .ref (He.ga X.K x)) hg hm rfl hd) fun _ _ => rfl
theorem de_gty {x : Str} {u : String} (hg : Gl X x) (hm : X.mg x = none) (hv : bootBuiltins x = some (.type u)) (hn : x ≠ "__name__" := by decide) (hd : (x == ("__debug__" : Str)) = false := by decide) : DE X (.Name x pos) (wC (.ty u)) :=
  de_c (pe_bltn (v := .ty u) hg hm hv rfl hn hd) fun _ _ => rfl
/-- a module's own tuple of texts -/
def KTup (K : PySem.W.Frag) (a : Addr) (ss : List Str) : Prop := ∃ (o : Obj) (its : Array Value) (n : Nat), K.lookup a = some o ∧ o.cls = .type "tuple" ∧ o.data = .seq its n ∧ its.size ≤ sizeLine ∧ Vals (ss.map V.str) its.toList
theorem de_gtup {x : Str} {u : Addr} {ss : List Str} (hg : Gl X x) (hm : X.mg x = some (.ref u)) (hk : KTup X.K u ss) (hd : (x == ("__debug__" : Str)) = false := by decide) : DE X (.Name x pos) (wC (.tup (ss.map D.str))) :=
  de_c (pe_glob (v := .ref u) hg hm rfl hd) fun r H => ⟨u, ss.map V.str, rfl, .inr hk, Reps.strs ss⟩

/-! ### two operands -/
abbrev F2 := D → D → AH → QE → Prop
def wBin (f : F2) (a b : WE) : WE := fun env ah q x => a env ah (fun d1 ah1 => b env ah1 (fun d2 ah2 => f d1 d2 ah2 q) x) x
def OpD (K : PySem.W.Frag) (r2 : R2) (f : F2) : Prop := ∀ r H ah d1 d2 v u q Q, HRep K r H ah → Rep K r H d1 v → Rep K r H d2 u → f d1 d2 ah q → Cn K r H q Q → r2 v u H Q
theorem LE.bin {f : F2} {r2 : R2} {W : WX} {s : L2.St} {H : Hp} {Q : VK} (ho : OpD K r2 f) (h : LE K (wBin f wa wb) W s H Q) : tOp r2 (LE K wa W) (LE K wb W) s H Q := by
  obtain ⟨r, env, ah, q, x, he, hh, hw, hq, hx⟩ := h
  refine ⟨r, env, ah, _, x, he, hh, hw, fun d1 ah1 h1 r1 H1 v k1 hh1 p1 => ?_, hx⟩
  refine ⟨r1, env, ah1, _, x, he.mono k1, hh1, h1, fun d2 ah2 h2 r2 H2 u k2 hh2 p2 => ?_, hx.step k1⟩
  exact ho r2 H2 ah2 d1 d2 v u q Q hh2 (p1.mono k2) p2 h2 (hq.step (k1.trans k2))
structure Bop (X : Cx) (op : Value → Value → Sem Value) (f : F2) : Prop where
  ex : ∃ r2, OpR X op r2 ∧ OpD X.K r2 f
theorem de_bin {op : Operator} {f : F2} (o : Bop X (binaryOp op) f) (ha : DE X a wa) (hb : DE X b wb) : DE X (.BinOp a op b pos) (wBin f wa wb) := fun W tk => by
  obtain ⟨r2, h1, h2⟩ := o.ex
  exact (pe_op h1 (ha W tk) (hb W tk)).weak fun s H Q h => LE.bin h2 h
theorem de_cmp {op : CmpOp} {f : F2} (o : Bop X (compareOp op) f) (ha : DE X a wa) (hb : DE X b wb) (hm : behindInMarks op b = false) : DE X (.Compare a [op] [b] pos) (wBin f wa wb) := fun W tk => by
  obtain ⟨r2, h1, h2⟩ := o.ex
  exact (pe_cmpR h1 (ha W tk) (hb W tk) hm).weak fun s H Q h => LE.bin h2 h
theorem Bop.or {op : Value → Value → Sem Value} {f g h : F2} (o : Bop X op f) (o2 : Bop X op g) (i : ∀ d1 d2 ah q, h d1 d2 ah q → f d1 d2 ah q ∨ g d1 d2 ah q) : Bop X op h := by
  obtain ⟨r2, h1, h2⟩ := o.ex
  obtain ⟨r3, h3, h4⟩ := o2.ex
  refine ⟨_, h1.or h3, fun r H ah d1 d2 v u q Q hh p1 p2 w hq => ?_⟩
  rcases i _ _ _ _ w with w | w
  · exact .inl (h2 r H ah d1 d2 v u q Q hh p1 p2 w hq)
  · exact .inr (h4 r H ah d1 d2 v u q Q hh p1 p2 w hq)
theorem Bop.imp {op : Value → Value → Sem Value} {f h : F2} (o : Bop X op f) (i : ∀ d1 d2 ah q, h d1 d2 ah q → f d1 d2 ah q) : Bop X op h := by
  obtain ⟨r2, h1, h2⟩ := o.ex
  exact ⟨r2, h1, fun r H ah d1 d2 v u q Q hh p1 p2 w hq => h2 r H ah d1 d2 v u q Q hh p1 p2 (i _ _ _ _ w) hq⟩
/-- two ints -/
def fI (C : Int → Int → Prop) (g : Int → Int → D) : F2 := fun d1 d2 ah q => ∃ i j, d1 = .int i ∧ d2 = .int j ∧ C i j ∧ q (g i j) ah
theorem bop_I {op : Value → Value → Sem Value} {C : Int → Int → Prop} {gv : Int → Int → V} {g : Int → Int → D} (h : OpR X op (rI C gv)) (hg : ∀ i j r H, Rep X.K r H (g i j) (gv i j)) : Bop X op (fI C g) :=
  ⟨_, h, fun r H ah d1 d2 v u q Q hh p1 p2 w hq => by
    obtain ⟨i, j, rfl, rfl, c, w⟩ := w
    exact ⟨i, j, p1, p2, c, hq.here w hh (hg i j r H)⟩⟩
theorem bop_I0 {op : Value → Value → Sem Value} {gv : Int → Int → V} {g : Int → Int → D} (h : OpR X op (rI0 gv)) (hg : ∀ i j r H, Rep X.K r H (g i j) (gv i j)) : Bop X op (fI (fun _ _ => True) g) :=
  ⟨_, h, fun r H ah d1 d2 v u q Q hh p1 p2 w hq => by
    obtain ⟨i, j, rfl, rfl, c, w⟩ := w
    exact ⟨i, j, p1, p2, hq.here w hh (hg i j r H)⟩⟩
def fS (C : Str → Str → Prop) (g : Str → Str → D) : F2 := fun d1 d2 ah q => ∃ i j, d1 = .str i ∧ d2 = .str j ∧ C i j ∧ q (g i j) ah
theorem bop_add_str : Bop X (binaryOp .Add) (fS (fun i j => i.length + j.length ≤ sizeLine) fun i j => .str (i ++ j)) :=
  ⟨_, op_add_str, fun r H ah d1 d2 v u q Q hh p1 p2 w hq => by
    obtain ⟨i, j, rfl, rfl, c, w⟩ := w
    exact ⟨i, j, p1, p2, c, hq.here w hh rfl⟩⟩
/-- a new list -/
def newL (xs : List D) (ah : AH) (q : QE) : Prop := q (.ref ah.length) (ah ++ [.lst xs])
theorem newL_ok {r : List Addr} {H : Hp} {ah : AH} {q : QE} {Q : VK} {xs : List D} {vs : List V} (hh : HRep K r H ah) (hr : Reps K r H xs vs) (w : newL xs ah q) (hq : Cn K r H q Q) {p : Addr} (hp : H p = none) : Q (.ref p) (upd H p (.lst vs)) := by
  refine hq _ _ w (r ++ [p]) (upd H p (.lst vs)) (.ref p) (Kp.push hp) (hh.push hp ⟨vs, upd_same, hr.mono (Kp.push hp)⟩) ⟨p, ?_, rfl⟩
  rw [← hh.len]
  simp
theorem newT_ok {r : List Addr} {H : Hp} {ah : AH} {q : QE} {Q : VK} {xs : List D} {vs : List V} (hh : HRep K r H ah) (hr : Reps K r H xs vs) (w : q (.tup xs) ah) (hq : Cn K r H q Q) {p : Addr} (hp : H p = none) : Q (.ref p) (upd H p (.tup vs)) :=
  hq _ _ w r (upd H p (.tup vs)) (.ref p) (Kp.new_ hp) (hh.new_ hp) ⟨p, vs, rfl, .inl (.inl upd_same), hr.mono (Kp.new_ hp)⟩
def fCat : F2 := fun d1 d2 ah q => ∃ n m xs ys, d1 = .ref n ∧ d2 = .ref m ∧ ah[n]? = some (.lst xs) ∧ ah[m]? = some (.lst ys) ∧ xs.length + ys.length ≤ sizeLine ∧ newL (xs ++ ys) ah q
theorem bop_cat : Bop X (binaryOp .Add) fCat :=
  ⟨_, op_cat, fun r H ah d1 d2 v u q Q hh p1 p2 w hq => by
    obtain ⟨n, m, xs, ys, rfl, rfl, e1, e2, hl, w⟩ := w
    obtain ⟨a1, q1, rfl⟩ := p1
    obtain ⟨a2, q2, rfl⟩ := p2
    obtain ⟨vs, f1, r1⟩ := hh.ob _ _ _ q1 e1
    obtain ⟨us, f2, r2⟩ := hh.ob _ _ _ q2 e2
    refine ⟨a1, a2, vs, us, rfl, rfl, f1, f2, by rw [r1.length, r2.length]; exact hl, fun p hp => newL_ok hh (r1.append r2) w hq hp⟩⟩
def fCatT : F2 := fun d1 d2 ah q => ∃ xs ys, d1 = .tup xs ∧ d2 = .tup ys ∧ xs.length + ys.length ≤ sizeLine ∧ q (.tup (xs ++ ys)) ah
theorem bop_catT : Bop X (binaryOp .Add) fCatT :=
  ⟨_, op_catA, fun r H ah d1 d2 v u q Q hh p1 p2 w hq => by
    obtain ⟨xs, ys, rfl, rfl, hl, w⟩ := w
    obtain ⟨a1, vs, rfl, s1, r1⟩ := p1
    obtain ⟨a2, us, rfl, s2, r2⟩ := p2
    refine ⟨a1, a2, vs, us, rfl, rfl, s1, s2, by rw [r1.length, r2.length]; exact hl, fun z => ?_, fun _ z => ?_, fun _ _ p hp => newT_ok hh (r1.append r2) w hq hp⟩
    · subst z
      have e : xs = [] := List.eq_nil_of_length_eq_zero (by rw [← r1.length]; rfl)
      subst e
      exact hq.here w hh ⟨a2, us, rfl, s2, r2⟩
    · subst z
      have e : ys = [] := List.eq_nil_of_length_eq_zero (by rw [← r2.length]; rfl)
      subst e
      rw [List.append_nil] at w
      exact hq.here w hh ⟨a1, vs, rfl, s1, r1⟩⟩
def fAdd : F2 := fun d1 d2 ah q => match d1, d2 with
  | .int i, .int j => q (.int (i + j)) ah
  | .str i, .str j => i.length + j.length ≤ sizeLine ∧ q (.str (i ++ j)) ah
  | .tup i, .tup j => i.length + j.length ≤ sizeLine ∧ q (.tup (i ++ j)) ah
  | .ref n, .ref m => (match ah[n]?, ah[m]? with
    | some (.lst xs), some (.lst ys) => xs.length + ys.length ≤ sizeLine ∧ newL (xs ++ ys) ah q
    | _, _ => False)
  | _, _ => False
theorem bop_add : Bop X (binaryOp .Add) fAdd := by
  refine (bop_I0 (g := fun i j => .int (i + j)) op_add (fun _ _ _ _ => rfl)).or (bop_add_str.or (bop_cat.or bop_catT (h := fun d1 d2 ah q => fCat d1 d2 ah q ∨ fCatT d1 d2 ah q) fun _ _ _ _ h => h)
    (h := fun d1 d2 ah q => fS (fun i j => i.length + j.length ≤ sizeLine) (fun i j => .str (i ++ j)) d1 d2 ah q ∨ fCat d1 d2 ah q ∨ fCatT d1 d2 ah q) fun _ _ _ _ h => h) fun d1 d2 ah q h => ?_
  unfold fAdd at h
  split at h
  · exact .inl ⟨_, _, rfl, rfl, trivial, h⟩
  · exact .inr (.inl ⟨_, _, rfl, rfl, h.1, h.2⟩)
  · exact .inr (.inr (.inr ⟨_, _, rfl, rfl, h.1, h.2⟩))
  · split at h
    · exact .inr (.inr (.inl ⟨_, _, _, _, rfl, rfl, by assumption, by assumption, h.1, h.2⟩))
    · exact h.elim
  · exact h.elim
def fSub : F2 := fun d1 d2 ah q => match d1, d2 with
  | .int i, .int j => q (.int (i - j)) ah
  | _, _ => False
theorem bop_sub : Bop X (binaryOp .Sub) fSub := (bop_I0 (g := fun i j => .int (i - j)) op_sub (fun _ _ _ _ => rfl)).imp fun d1 d2 ah q h => by
  unfold fSub at h
  split at h
  · exact ⟨_, _, rfl, rfl, trivial, h⟩
  · exact h.elim
/-- a product is told: one factor is small, or both together have less than a million bits -/
def MulOk (i j : Int) : Prop := CMul i j ∨ CMulW i j
def fMul : F2 := fun d1 d2 ah q => match d1, d2 with
  | .int i, .int j => MulOk i j ∧ q (.int (i * j)) ah
  | .ref n, .int k => (match ah[n]? with
    | some (.lst xs) => -(2 ^ 63) ≤ k ∧ k < 2 ^ 63 ∧ xs.length * k.toNat ≤ sizeLine ∧ newL (List.replicate k.toNat xs).flatten ah q
    | _ => False)
  | _, _ => False
def fRep : F2 := fun d1 d2 ah q => ∃ n k xs, d1 = .ref n ∧ d2 = .int k ∧ ah[n]? = some (.lst xs) ∧ -(2 ^ 63) ≤ k ∧ k < 2 ^ 63 ∧ xs.length * k.toNat ≤ sizeLine ∧ newL (List.replicate k.toNat xs).flatten ah q
theorem bop_rep : Bop X (binaryOp .Mult) fRep :=
  ⟨_, op_rep, fun r H ah d1 d2 v u q Q hh p1 p2 w hq => by
    obtain ⟨n, k, xs, rfl, rfl, e1, h1, h2, hl, w⟩ := w
    obtain ⟨a1, q1, rfl⟩ := p1
    obtain ⟨vs, f1, r1⟩ := hh.ob _ _ _ q1 e1
    exact ⟨a1, k, vs, rfl, p2, f1, h1, h2, by rw [r1.length]; exact hl, fun p hp => newL_ok hh (r1.flat _) w hq hp⟩⟩
theorem bop_mul : Bop X (binaryOp .Mult) fMul := by
  refine (bop_I (g := fun i j => .int (i * j)) op_mul (fun _ _ _ _ => rfl)).or ((bop_I (g := fun i j => .int (i * j)) op_mulW (fun _ _ _ _ => rfl)).or bop_rep (h := fun d1 d2 ah q => fI CMulW (fun i j => .int (i * j)) d1 d2 ah q ∨ fRep d1 d2 ah q) fun _ _ _ _ h => h) fun d1 d2 ah q h => ?_
  unfold fMul at h
  split at h
  · rcases h.1 with z | z
    · exact .inl ⟨_, _, rfl, rfl, z, h.2⟩
    · exact .inr (.inl ⟨_, _, rfl, rfl, z, h.2⟩)
  · split at h
    · exact .inr (.inr ⟨_, _, _, rfl, rfl, by assumption, h.1, h.2.1, h.2.2.1, h.2.2.2⟩)
    · exact h.elim
  · exact h.elim
def fDiv : F2 := fun d1 d2 ah q => match d1, d2 with
  | .int i, .int j => CDivW i j ∧ q (.int (i / j)) ah
  | _, _ => False
theorem bop_div : Bop X (binaryOp .FloorDiv) fDiv := (bop_I (g := fun i j => .int (i / j)) op_fdivW (fun _ _ _ _ => rfl)).imp fun d1 d2 ah q h => by
  unfold fDiv at h
  split at h
  · exact ⟨_, _, rfl, rfl, h.1, h.2⟩
  · exact h.elim
def fMod : F2 := fun d1 d2 ah q => match d1, d2 with
  | .int i, .int j => 0 < j ∧ q (.int (i % j)) ah
  | _, _ => False
theorem bop_mod : Bop X (binaryOp .Mod) fMod := (bop_I (g := fun i j => .int (i % j)) op_mod (fun _ _ _ _ => rfl)).imp fun d1 d2 ah q h => by
  unfold fMod at h
  split at h
  · exact ⟨_, _, rfl, rfl, h.1, h.2⟩
  · exact h.elim
def fPow : F2 := fun d1 d2 ah q => match d1, d2 with
  | .int i, .int j => CPow i j ∧ q (.int (i ^ j.toNat)) ah
  | _, _ => False
theorem bop_pow : Bop X (binaryOp .Pow) fPow := (bop_I (g := fun i j => .int (i ^ j.toNat)) op_pow (fun _ _ _ _ => rfl)).imp fun d1 d2 ah q h => by
  unfold fPow at h
  split at h
  · exact ⟨_, _, rfl, rfl, h.1, h.2⟩
  · exact h.elim
/-! ### comparisons -/
def fLt : F2 := fun d1 d2 ah q => match d1, d2 with
  | .int i, .int j => q (.bl (decide (i < j))) ah
  | .str i, .str j => q (.bl (decide (i.cps.toList < j.cps.toList))) ah
  | _, _ => False
def fLe : F2 := fun d1 d2 ah q => match d1, d2 with
  | .int i, .int j => q (.bl (decide (i ≤ j))) ah
  | _, _ => False
def fGt : F2 := fun d1 d2 ah q => match d1, d2 with
  | .int i, .int j => q (.bl (decide (j < i))) ah
  | .str i, .str j => q (.bl (decide (j.cps.toList < i.cps.toList))) ah
  | _, _ => False
def fGe : F2 := fun d1 d2 ah q => match d1, d2 with
  | .int i, .int j => q (.bl (decide (j ≤ i))) ah
  | _, _ => False
theorem bop_lt : Bop X (compareOp .Lt) fLt := by
  refine (bop_I0 (g := fun i j => .bl (decide (i < j))) op_lt (fun _ _ _ _ => rfl)).or (g := fS (fun _ _ => True) fun i j => .bl (decide (i.cps.toList < j.cps.toList))) ⟨_, op_lt_str, fun r H ah d1 d2 v u q Q hh p1 p2 w hq => ?_⟩ fun d1 d2 ah q h => ?_
  · obtain ⟨i, j, rfl, rfl, c, w⟩ := w
    exact ⟨i, j, p1, p2, hq.here w hh rfl⟩
  · unfold fLt at h
    split at h
    · exact .inl ⟨_, _, rfl, rfl, trivial, h⟩
    · exact .inr ⟨_, _, rfl, rfl, trivial, h⟩
    · exact h.elim
theorem bop_gt : Bop X (compareOp .Gt) fGt := by
  refine (bop_I0 (g := fun i j => .bl (decide (j < i))) op_gt (fun _ _ _ _ => rfl)).or (g := fS (fun _ _ => True) fun i j => .bl (decide (j.cps.toList < i.cps.toList))) ⟨_, op_gt_str, fun r H ah d1 d2 v u q Q hh p1 p2 w hq => ?_⟩ fun d1 d2 ah q h => ?_
  · obtain ⟨i, j, rfl, rfl, c, w⟩ := w
    exact ⟨i, j, p1, p2, hq.here w hh rfl⟩
  · unfold fGt at h
    split at h
    · exact .inl ⟨_, _, rfl, rfl, trivial, h⟩
    · exact .inr ⟨_, _, rfl, rfl, trivial, h⟩
    · exact h.elim
theorem bop_le : Bop X (compareOp .LtE) fLe := (bop_I0 (g := fun i j => .bl (decide (i ≤ j))) op_le (fun _ _ _ _ => rfl)).imp fun d1 d2 ah q h => by
  unfold fLe at h
  split at h
  · exact ⟨_, _, rfl, rfl, trivial, h⟩
  · exact h.elim
theorem bop_ge : Bop X (compareOp .GtE) fGe := (bop_I0 (g := fun i j => .bl (decide (j ≤ i))) op_ge (fun _ _ _ _ => rfl)).imp fun d1 d2 ah q h => by
  unfold fGe at h
  split at h
  · exact ⟨_, _, rfl, rfl, trivial, h⟩
  · exact h.elim
/-- is, is not: of None and of truths -/
def fIs (neg : Bool) : F2 := fun d1 d2 ah q => match d1, d2 with
  | .bl a, .bl b => q (.bl (neg != decide (a = b))) ah
  | .non, .non => q (.bl (!neg)) ah
  | .int _, .non => q (.bl neg) ah
  | .str _, .non => q (.bl neg) ah
  | .bl _, .non => q (.bl neg) ah
  | .tup _, .non => q (.bl neg) ah
  | .ref _, .non => q (.bl neg) ah
  | _, _ => False
/-- data as the model's own -/
def pds (f : D → Option PyData) : List D → Option (List PyData)
  | [] => some []
  | d :: l => match f d, pds f l with
    | some x, some y => some (x :: y)
    | _, _ => none
def pd : Nat → AH → D → Option PyData
  | _, _, .non => some .none
  | _, _, .bl b => some (.bool b)
  | _, _, .int i => some (.int i)
  | _, _, .str s => some (.str s)
  | n + 1, ah, .tup l => (pds (pd n ah) l).map .tuple
  | n + 1, ah, .frl l => (pds (pd n ah) l).map .list
  | n + 1, ah, .ref k => (match ah[k]? with
    | some (.lst xs) => (pds (pd n ah) xs).map .list
    | _ => none)
  | _, _, _ => none
theorem pds_dp {f : D → Option PyData} {r : List Addr} {H : Hp} (h : ∀ d v p, Rep K r H d v → f d = some p → Dp K H v p) : ∀ {l : List D} {vs : List V} {ps : List PyData}, Reps K r H l vs → pds f l = some ps → DpAll K H vs ps
  | [], _, _, e, e2 => by cases e; cases e2; exact .nil
  | d :: l, _, _, ⟨v, vr, e, p, q⟩, e2 => by
    subst e
    unfold pds at e2
    split at e2
    · cases e2
      exact .cons (h _ _ _ p (by assumption)) (pds_dp h q (by assumption))
    · cases e2
theorem pd_dp {r : List Addr} {H : Hp} {ah : AH} (hh : HRep K r H ah) : ∀ (n : Nat) (d : D) (v : V) (p : PyData), Rep K r H d v → pd n ah d = some p → Dp K H v p := by
  intro n
  induction n with
  | zero =>
    intro d v p h e
    cases d <;> first | (cases e; cases h; constructor) | cases e
  | succ n ih =>
    intro d v p h e
    cases d with
    | non => cases e; cases h; constructor
    | bl b => cases e; cases h; constructor
    | int b => cases e; cases h; constructor
    | str b => cases e; cases h; constructor
    | ty n => cases e
    | glo n => cases e
    | tup l =>
      obtain ⟨a, xs, rfl, s, q⟩ := h
      unfold pd at e
      cases z : pds (pd n ah) l with
      | none => rw [z] at e; cases e
      | some ps => rw [z] at e; cases e; exact .tup s (pds_dp ih q z)
    | frl l =>
      obtain ⟨a, xs, rfl, s, q⟩ := h
      unfold pd at e
      cases z : pds (pd n ah) l with
      | none => rw [z] at e; cases e
      | some ps => rw [z] at e; cases e; exact .lst s.sq (pds_dp ih q z)
    | ref k =>
      obtain ⟨a, q1, rfl⟩ := h
      unfold pd at e
      split at e
      · rename_i xs q2
        obtain ⟨vs, f1, r1⟩ := hh.ob _ _ _ q1 q2
        cases z : pds (pd n ah) xs with
        | none => rw [z] at e; cases e
        | some ps => rw [z] at e; cases e; exact .lst (.of f1) (pds_dp ih r1 z)
      · cases e
def fEqD (neg : Bool) : F2 := fun d1 d2 ah q => ∃ p1 p2, pd 20 ah d1 = some p1 ∧ pd 20 ah d2 = some p2 ∧ SeqAt.shaped p1 = true ∧ SeqAt.shaped p2 = true ∧ q (.bl (neg != PyData.eqv p1 p2)) ah
theorem bop_eqD (hu : X.A.units + 64 < cLine) : Bop X (compareOp .Eq) (fEqD false) :=
  ⟨_, op_eqD hu, fun r H ah d1 d2 v u q Q hh h1 h2 w hq => by
    obtain ⟨p1, p2, e1, e2, s1, s2, w⟩ := w
    exact ⟨p1, p2, pd_dp hh _ _ _ _ h1 e1, pd_dp hh _ _ _ _ h2 e2, s1, s2, hq.here w hh (by simp [Rep])⟩⟩
theorem bop_neD (hu : X.A.units + 64 < cLine) : Bop X (compareOp .NotEq) (fEqD true) :=
  ⟨_, op_neD hu, fun r H ah d1 d2 v u q Q hh h1 h2 w hq => by
    obtain ⟨p1, p2, e1, e2, s1, s2, w⟩ := w
    exact ⟨p1, p2, pd_dp hh _ _ _ _ h1 e1, pd_dp hh _ _ _ _ h2 e2, s1, s2, hq.here w hh (by simp [Rep])⟩⟩
end
end Z
namespace Z
open PySem PySem.Spec PyProof.Rows L2
section
variable {X : Cx} {K : PySem.W.Frag} {pos : Pos} {a b c e : Expr} {es : List Expr} {wa wb wc we : WE} {ta tb tc : WT} {ws : WA}

/-- == and != : scalars at once, all else as data -/
def fEq (neg : Bool) : F2 := fun d1 d2 ah q => match d1, d2 with
  | .int i, .int j => q (.bl (neg != decide (i = j))) ah
  | .str i, .str j => q (.bl (neg != decide (i = j))) ah
  | .bl i, .bl j => q (.bl (neg != decide (i = j))) ah
  | .non, .non => q (.bl (!neg)) ah
  | .int _, .non => q (.bl neg) ah
  | .non, .int _ => q (.bl neg) ah
  | .str _, .non => q (.bl neg) ah
  | .non, .str _ => q (.bl neg) ah
  | .int _, .str _ => q (.bl neg) ah
  | .str _, .int _ => q (.bl neg) ah
  | d1, d2 => fEqD neg d1 d2 ah q
def fScal (neg : Bool) : F2 := fun d1 d2 ah q => ∃ v u, (∀ K r H, Rep K r H d1 v) ∧ (∀ K r H, Rep K r H d2 u) ∧ scal v u = true ∧ q (.bl (neg != decide (v = u))) ah
theorem rep_uniq {r : List Addr} {H : Hp} {d : D} {v u : V} (h1 : ∀ K r H, Rep K r H d v) (h2 : Rep K r H d u) : v = u := by
  cases d with
  | non => exact (h1 K r H).trans (Eq.symm h2)
  | bl _ => exact (h1 K r H).trans (Eq.symm h2)
  | int _ => exact (h1 K r H).trans (Eq.symm h2)
  | str _ => exact (h1 K r H).trans (Eq.symm h2)
  | ty _ => exact (h1 K r H).trans (Eq.symm h2)
  | glo _ => exact (h1 K r H).trans (Eq.symm h2)
  | ref n =>
    obtain ⟨a, e, rfl⟩ := h1 K r H
    obtain ⟨b, e2, rfl⟩ := h2
    rw [e] at e2; cases e2; rfl
  | tup l =>
    obtain ⟨a, xs, rfl, s, _⟩ := h1 K r H
    obtain ⟨a', xs', rfl, s', _⟩ := h2
    obtain ⟨a2, xs2, e, s2, _⟩ := h1 [] [] (fun _ => none)
    rcases s2 with s2 | ⟨o, its, n, hk, _⟩
    · rcases s2 with s2 | ⟨o, s2⟩ <;> cases s2
    · cases hk
  | frl l =>
    obtain ⟨a2, xs2, e, s2, _⟩ := h1 [] [] (fun _ => none)
    rcases s2 with ⟨o, s2⟩ | ⟨o, its, n, hk, _⟩
    · cases s2
    · cases hk
theorem bop_scal : Bop X (compareOp .Eq) (fScal false) :=
  ⟨_, op_eq, fun r H ah d1 d2 v u q Q hh p1 p2 w hq => by
    obtain ⟨v', u', h1, h2, hs, w⟩ := w
    obtain rfl := rep_uniq h1 p1
    obtain rfl := rep_uniq h2 p2
    exact ⟨hs, hq.here w hh (by simp [Rep])⟩⟩
theorem bop_scalN : Bop X (compareOp .NotEq) (fScal true) :=
  ⟨_, op_ne, fun r H ah d1 d2 v u q Q hh p1 p2 w hq => by
    obtain ⟨v', u', h1, h2, hs, w⟩ := w
    obtain rfl := rep_uniq h1 p1
    obtain rfl := rep_uniq h2 p2
    exact ⟨hs, hq.here w hh (by simp [Rep])⟩⟩
theorem fEq_split (neg : Bool) (d1 d2 : D) (ah : AH) (q : QE) (h : fEq neg d1 d2 ah q) : fScal neg d1 d2 ah q ∨ fEqD neg d1 d2 ah q := by
  unfold fEq at h
  split at h
  · exact .inl ⟨.int _, .int _, fun _ _ _ => rfl, fun _ _ _ => rfl, rfl, by simpa using h⟩
  · exact .inl ⟨.str _, .str _, fun _ _ _ => rfl, fun _ _ _ => rfl, rfl, by simpa using h⟩
  · exact .inl ⟨.bl _, .bl _, fun _ _ _ => rfl, fun _ _ _ => rfl, rfl, by simpa using h⟩
  · exact .inl ⟨.non, .non, fun _ _ _ => rfl, fun _ _ _ => rfl, rfl, by simpa using h⟩
  · exact .inl ⟨.int _, .non, fun _ _ _ => rfl, fun _ _ _ => rfl, rfl, by simpa using h⟩
  · exact .inl ⟨.non, .int _, fun _ _ _ => rfl, fun _ _ _ => rfl, rfl, by simpa using h⟩
  · exact .inl ⟨.str _, .non, fun _ _ _ => rfl, fun _ _ _ => rfl, rfl, by simpa using h⟩
  · exact .inl ⟨.non, .str _, fun _ _ _ => rfl, fun _ _ _ => rfl, rfl, by simpa using h⟩
  · exact .inl ⟨.int _, .str _, fun _ _ _ => rfl, fun _ _ _ => rfl, rfl, by simpa using h⟩
  · exact .inl ⟨.str _, .int _, fun _ _ _ => rfl, fun _ _ _ => rfl, rfl, by simpa using h⟩
  · exact .inr h
theorem bop_eq (hu : X.A.units + 64 < cLine) : Bop X (compareOp .Eq) (fEq false) := bop_scal.or (bop_eqD hu) (fEq_split false)
theorem bop_ne (hu : X.A.units + 64 < cLine) : Bop X (compareOp .NotEq) (fEq true) := bop_scalN.or (bop_neD hu) (fEq_split true)
theorem bop_is : Bop X (compareOp .Is) (fIs false) := by
  refine Bop.or (f := fun d1 d2 ah q => ∃ a b, d1 = .bl a ∧ d2 = .bl b ∧ q (.bl (decide (a = b))) ah) (g := fun d1 d2 ah q => d2 = .non ∧ ∀ v, (∃ K r H, Rep K r H d1 v) → q (.bl (decide (v = .non))) ah)
    ⟨_, op_is_bl, fun r H ah d1 d2 v u q Q hh p1 p2 w hq => ?_⟩ ⟨_, op_isN, fun r H ah d1 d2 v u q Q hh p1 p2 w hq => ?_⟩ fun d1 d2 ah q h => ?_
  · obtain ⟨a, b, rfl, rfl, w⟩ := w
    exact ⟨a, b, p1, p2, hq.here w hh rfl⟩
  · obtain ⟨rfl, w⟩ := w
    exact ⟨p2, hq.here (w v ⟨_, r, H, p1⟩) hh rfl⟩
  · unfold fIs at h
    split at h
    · exact .inl ⟨_, _, rfl, rfl, by simpa using h⟩
    all_goals first
      | exact h.elim
      | (refine .inr ⟨rfl, fun v p => ?_⟩
         obtain ⟨K, r, H, p⟩ := p
         first
           | (have e : v = _ := p; subst e; simpa using h)
           | (obtain ⟨a, xs, e, _⟩ := p; subst e; simpa using h)
           | (obtain ⟨a, _, e⟩ := p; subst e; simpa using h))
theorem bop_isnot : Bop X (compareOp .IsNot) (fIs true) := by
  refine Bop.or (f := fun d1 d2 ah q => ∃ a b, d1 = .bl a ∧ d2 = .bl b ∧ q (.bl (!decide (a = b))) ah) (g := fun d1 d2 ah q => d2 = .non ∧ ∀ v, (∃ K r H, Rep K r H d1 v) → q (.bl (!decide (v = .non))) ah)
    ⟨_, op_isnot_bl, fun r H ah d1 d2 v u q Q hh p1 p2 w hq => ?_⟩ ⟨_, op_notN, fun r H ah d1 d2 v u q Q hh p1 p2 w hq => ?_⟩ fun d1 d2 ah q h => ?_
  · obtain ⟨a, b, rfl, rfl, w⟩ := w
    exact ⟨a, b, p1, p2, hq.here w hh rfl⟩
  · obtain ⟨rfl, w⟩ := w
    exact ⟨p2, hq.here (w v ⟨_, r, H, p1⟩) hh rfl⟩
  · unfold fIs at h
    split at h
    · exact .inl ⟨_, _, rfl, rfl, by simpa using h⟩
    all_goals first
      | exact h.elim
      | (refine .inr ⟨rfl, fun v p => ?_⟩
         obtain ⟨K, r, H, p⟩ := p
         first
           | (have e : v = _ := p; subst e; simpa using h)
           | (obtain ⟨a, xs, e, _⟩ := p; subst e; simpa using h)
           | (obtain ⟨a, _, e⟩ := p; subst e; simpa using h))
/-! ### in, not in: a sign in a text; flat things in a list or tuple -/
def flatD : D → Bool
  | .non => true | .bl _ => true | .int _ => true | .str _ => true | _ => false
def eqF : D → D → Bool
  | .non, .non => true
  | .bl a, .bl b => a == b
  | .bl a, .int b => (if a then 1 else 0) == b
  | .int a, .bl b => a == (if b then 1 else 0)
  | .int a, .int b => a == b
  | .str a, .str b => a == b
  | _, _ => false
theorem flat_rep {r : List Addr} {H : Hp} {d : D} {v : V} (h : Rep K r H d v) (f : flatD d = true) : flatV v = true := by
  cases d <;> first | exact absurd f Bool.false_ne_true | (cases h; rfl)
theorem flats_rep {r : List Addr} {H : Hp} : ∀ {l : List D} {vs : List V}, Reps K r H l vs → l.all flatD = true → vs.all flatV = true
  | [], _, h, _ => by cases h; rfl
  | d :: l, _, ⟨v, vr, e, p, q⟩, f => by
    subst e
    simp only [List.all_cons, Bool.and_eq_true] at f ⊢
    exact ⟨flat_rep p f.1, flats_rep q f.2⟩
theorem eqF_rep {r : List Addr} {H : Hp} {d d' : D} {v v' : V} (h : Rep K r H d v) (h' : Rep K r H d' v') (f : flatD d = true) (f' : flatD d' = true) : eqV v v' = eqF d d' := by
  cases d <;> first
    | exact absurd f Bool.false_ne_true
    | (cases h; cases d' <;> first | exact absurd f' Bool.false_ne_true | (cases h'; rfl))
theorem anyF_rep {r : List Addr} {H : Hp} {d : D} {v : V} (h : Rep K r H d v) (f : flatD d = true) : ∀ {l : List D} {vs : List V}, Reps K r H l vs → l.all flatD = true → inV v vs = l.any fun y => eqF y d
  | [], _, h, _ => by cases h; rfl
  | y :: l, _, ⟨u, vr, e, p, q⟩, g => by
    subst e
    simp only [List.all_cons, Bool.and_eq_true] at g
    have ih := anyF_rep h f q g.2
    unfold inV at ih ⊢
    rw [List.any_cons, List.any_cons, ih, eqF_rep p h g.1 f]
def fIn (neg : Bool) : F2 := fun d1 d2 ah q => match d1, d2 with
  | .str x, .str z => ∃ c, x = ⟨#[c]⟩ ∧ q (.bl (neg != decide (c ∈ z.cps.toList))) ah
  | d, .tup l => flatD d = true ∧ l.all flatD = true ∧ q (.bl (neg != l.any fun y => eqF y d)) ah
  | d, .ref n => (match ah[n]? with
    | some (.lst l) => flatD d = true ∧ l.all flatD = true ∧ q (.bl (neg != l.any fun y => eqF y d)) ah
    | _ => False)
  | _, _ => False
def fInSign (neg : Bool) : F2 := fun d1 d2 ah q => ∃ c z, d1 = .str ⟨#[c]⟩ ∧ d2 = .str z ∧ q (.bl (neg != decide (c ∈ z.cps.toList))) ah
def fInFlat (neg : Bool) : F2 := fun d1 d2 ah q => ∃ l, (d2 = .tup l ∨ ∃ n, d2 = .ref n ∧ ah[n]? = some (.lst l)) ∧ flatD d1 = true ∧ l.all flatD = true ∧ q (.bl (neg != l.any fun y => eqF y d1)) ah
theorem fIn_split (neg : Bool) (d1 d2 : D) (ah : AH) (q : QE) (h : fIn neg d1 d2 ah q) : fInSign neg d1 d2 ah q ∨ fInFlat neg d1 d2 ah q := by
  unfold fIn at h
  split at h
  · obtain ⟨c, e, h⟩ := h
    exact .inl ⟨c, _, by rw [e], rfl, h⟩
  · exact .inr ⟨_, .inl rfl, h⟩
  · split at h
    · exact .inr ⟨_, .inr ⟨_, rfl, by assumption⟩, h⟩
    · exact h.elim
  · exact h.elim
theorem inFlat_ok {neg : Bool} : OpD K (rIn K neg) (fInFlat neg) := fun r H ah d1 d2 v u q Q hh p1 p2 w hq => by
  obtain ⟨l, h, f1, f2, w⟩ := w
  have fin : ∀ vs, Reps K r H l vs → Q (.bl (if neg = true then !inV v vs else inV v vs)) H := fun vs rv => by
    rw [anyF_rep p1 f1 rv f2]
    refine hq.here w hh ?_
    cases neg <;> simp [Rep]
  rcases h with rfl | ⟨n, rfl, e⟩
  · obtain ⟨p, vs, rfl, s, rv⟩ := p2
    exact ⟨p, vs, rfl, .inr s, flat_rep p1 f1, flats_rep rv f2, fin vs rv⟩
  · obtain ⟨p, e1, rfl⟩ := p2
    obtain ⟨vs, f, rv⟩ := hh.ob _ _ _ e1 e
    exact ⟨p, vs, rfl, .inl (.of f), flat_rep p1 f1, flats_rep rv f2, fin vs rv⟩
theorem bop_in : Bop X (compareOp .In) (fIn false) := Bop.or (f := fInSign false) (g := fInFlat false) ⟨_, op_in_sign, fun r H ah d1 d2 v u q Q hh p1 p2 w hq => by
    obtain ⟨c, z, rfl, rfl, w⟩ := w
    exact ⟨c, z, p1, p2, hq.here w hh (by simp [Rep])⟩⟩ ⟨_, op_in_seq, inFlat_ok⟩ (fIn_split false)
theorem bop_notin : Bop X (compareOp .NotIn) (fIn true) := Bop.or (f := fInSign true) (g := fInFlat true) ⟨_, op_notIn_sign, fun r H ah d1 d2 v u q Q hh p1 p2 w hq => by
    obtain ⟨c, z, rfl, rfl, w⟩ := w
    exact ⟨c, z, p1, p2, hq.here w hh (by simp [Rep])⟩⟩ ⟨_, op_notIn_seq, inFlat_ok⟩ (fIn_split true)

/-! ### an item -/
theorem atI_rep {r : List Addr} {H : Hp} {l : List D} {vs : List V} {i : Int} {d : D} (h : Reps K r H l vs) (e : atI l i = some d) : ∃ v, atI vs i = some v ∧ Rep K r H d v := by
  unfold atI at e ⊢
  rw [h.length]
  cases z : ixN l.length i with
  | none => rw [z] at e; cases e
  | some j =>
    rw [z] at e
    exact h.get e
def fIx : F2 := fun d1 d2 ah q => match d1, d2 with
  | .tup l, .int i => (match atI l i with
    | some d => q d ah
    | none => False)
  | .ref n, .int i => (match ah[n]? with
    | some (.lst l) => (match atI l i with
      | some d => q d ah
      | none => False)
    | _ => False)
  | .str z, .int i => z.length ≤ sizeLine ∧ (match atI z.cps.toList i with
    | some c => q (.str ⟨#[c]⟩) ah
    | none => False)
  | _, _ => False
theorem ixD : OpD K (rIx K) fIx := fun r H ah d1 d2 v u q Q hh p1 p2 w hq => by
  unfold fIx at w
  split at w
  · split at w
    · rename_i l i _ d e
      obtain ⟨p, vs, rfl, s, rv⟩ := p1
      obtain ⟨v, e1, rd⟩ := atI_rep rv e
      exact .inr (.inl ⟨p, vs, i, v, rfl, p2, s, e1, hq.here w hh rd⟩)
    · exact w.elim
  · split at w
    · rename_i n i _ l e
      split at w
      · rename_i d e2
        obtain ⟨p, e1, rfl⟩ := p1
        obtain ⟨vs, f, rv⟩ := hh.ob _ _ _ e1 e
        obtain ⟨v, e3, rd⟩ := atI_rep rv e2
        exact .inl ⟨p, vs, i, v, rfl, p2, .of f, e3, hq.here w hh rd⟩
      · exact w.elim
    · exact w.elim
  · obtain ⟨hl, w⟩ := w
    split at w
    · rename_i z i _ c e
      exact .inr (.inr ⟨z, i, c, p1, p2, hl, e, hq.here w hh rfl⟩)
    · exact w.elim
  · exact w.elim
theorem de_ix (ha : DE X a wa) (hb : DE X b wb) (hs : PlainIx b) : DE X (.Subscript a b pos) (wBin fIx wa wb) := fun W tk =>
  (pe_ix ix_seq (ha W tk) (hb W tk) hs).weak fun s H Q h => LE.bin ixD h

/-! ### a slice -/
abbrev WO := En → AH → (Option Int → AH → Prop) → QX → Prop
def CnO (K : PySem.W.Frag) (r : List Addr) (H : Hp) (q : Option Int → AH → Prop) (Q : Option Int → Hp → Prop) : Prop := ∀ d ah, q d ah → ∀ r' H', Kp K r H r' H' → HRep K r' H' ah → Q d H'
def LO (K : PySem.W.Frag) (w : WO) (W : WX) : TO := fun s H Q => ∃ r env ah q x, ERep K r H env s ∧ HRep K r H ah ∧ w env ah q x ∧ CnO K r H q Q ∧ CnX K r H x (fun c d H' => W c d s H')
def DO (X : Cx) (e : Option Expr) (w : WO) : Prop := ∀ W, Takes X W → PO X e (LO X.K w W)
def wNoPart : WO := fun _ ah q _ => q none ah
def wPart (w : WE) : WO := fun env ah q x => w env ah (fun d ah1 => match d with
  | .int i => q (some i) ah1
  | _ => False) x
theorem do_none : DO X none wNoPart := fun W tk => ⟨fun pins s σ H Q I ⟨r, env, ah, q, x, he, hh, hw, hq, hx⟩ => po_none.run pins s σ H Q I (hq _ _ hw r H Kp.refl hh)⟩
theorem do_some (h : DE X e we) : DO X (some e) (wPart we) := fun W tk => ⟨fun pins s σ H Q I ⟨r, env, ah, q, x, he, hh, hw, hq, hx⟩ => (po_some (h W tk)).run pins s σ H Q I
  ⟨r, env, ah, _, x, he, hh, hw, fun d ah1 h1 r1 H1 v k1 hh1 p1 => by
    cases d <;> first | exact h1.elim | skip
    exact ⟨_, p1, hq _ _ h1 r1 H1 k1 hh1⟩, hx⟩⟩
def cutD (l : List D) (lo hi : Option Int) : List D := (l.drop (HT.sIx l.length 0 lo)).take (HT.sIx l.length l.length hi - HT.sIx l.length 0 lo)
theorem cut_rep {r : List Addr} {H : Hp} {l : List D} {vs : List V} (lo hi : Option Int) (h : Reps K r H l vs) : Reps K r H (cutD l lo hi) (cutV vs lo hi) := by
  unfold cutD cutV
  rw [h.length]
  exact (h.drop _).take _
def fSl (d : D) (lo hi : Option Int) (ah : AH) (q : QE) : Prop := match d with
  | .str z => z.length ≤ sizeLine ∧ q (.str (cutS z lo hi)) ah
  | .tup l => q (.tup (cutD l lo hi)) ah
  | .ref n => (match ah[n]? with
    | some (.lst l) => newL (cutD l lo hi) ah q
    | _ => False)
  | _ => False
def wSl (w : WE) (lo hi : WO) : WE := fun env ah q x => w env ah (fun d ah1 => lo env ah1 (fun l ah2 => hi env ah2 (fun h ah3 => fSl d l h ah3 q) x) x) x
theorem cutV_all {xs : List V} {lo hi : Option Int} (h : HT.sIx xs.length 0 lo = 0 ∧ HT.sIx xs.length xs.length hi = xs.length) : cutV xs lo hi = xs := by
  unfold cutV
  rw [h.1, h.2]
  simp
theorem de_slice {lo hi : Option Expr} {wl wh : WO} {p2 : Pos} (ha : DE X e we) (hl : DO X lo wl) (hu : DO X hi wh) : DE X (.Subscript e (.Slice lo hi none p2) pos) (wSl we wl wh) := fun W tk =>
  (pe_slice (sl_str.or (sl_tupA.or sl_list)) (ha W tk) (hl W tk) (hu W tk)).weak fun s H Q ⟨r, env, ah, q, x, he, hh, hw, hq, hx⟩ => by
    refine ⟨r, env, ah, _, x, he, hh, hw, fun d1 ah1 h1 r1 H1 v k1 hh1 p1 => ?_, hx⟩
    refine ⟨r1, env, ah1, _, x, he.mono k1, hh1, h1, fun l ah2 h2 r2 H2 k2 hh2 => ?_, hx.step k1⟩
    refine ⟨r2, env, ah2, _, x, (he.mono k1).mono k2, hh2, h2, fun h ah3 h3 r3 H3 k3 hh3 => ?_, (hx.step k1).step k2⟩
    have p3 := (p1.mono k2).mono k3
    have hq3 := ((hq.step k1).step k2).step k3
    unfold fSl at h3
    split at h3
    · exact .inl ⟨_, p3, h3.1, hq3.here h3.2 hh3 rfl⟩
    · obtain ⟨a, vs, rfl, sq, rv⟩ := p3
      refine .inr (.inl ⟨a, vs, rfl, sq, fun z => ?_, fun _ p hp => newT_ok hh3 (cut_rep l h rv) h3 hq3 hp⟩)
      have c := cut_rep (K := X.K) l h rv
      rw [cutV_all z] at c
      exact hq3.here h3 hh3 ⟨a, vs, rfl, sq, c⟩
    · split at h3
      · obtain ⟨p, e1, rfl⟩ := p3
        obtain ⟨vs, f, rv⟩ := hh3.ob _ _ _ e1 (by assumption)
        exact .inr (.inr ⟨p, vs, rfl, .of f, fun p hp => newL_ok hh3 (cut_rep l h rv) h3 hq3 hp⟩)
      · exact h3.elim
    · exact h3.elim

/-! ### arguments, displays -/
def wNil : WA := fun _ ah q _ => q [] ah
def wCons (w : WE) (r : WA) : WA := fun env ah q x => w env ah (fun d ah1 => r env ah1 (fun ds ah2 => q (d :: ds) ah2) x) x
theorem da_nil : DA X [] wNil := fun W _ => pa_nil.weak fun s H Q ⟨r, env, ah, q, x, he, hh, hw, hq, hx⟩ => hq _ _ hw r H [] Kp.refl hh rfl
theorem da_cons (ha : DE X e we) (hr : DA X es ws) (hs : starEach (e :: es) X.env = (false, eval e X.env) :: starEach es X.env := by rfl) : DA X (e :: es) (wCons we ws) := fun W tk =>
  (pa_cons (ha W tk) (hr W tk) hs).weak fun s H Q ⟨r, env, ah, q, x, he, hh, hw, hq, hx⟩ => by
    refine ⟨r, env, ah, _, x, he, hh, hw, fun d1 ah1 h1 r1 H1 v k1 hh1 p1 => ?_, hx⟩
    refine ⟨r1, env, ah1, _, x, he.mono k1, hh1, h1, fun ds ah2 h2 r2 H2 vs k2 hh2 p2 => ?_, hx.step k1⟩
    exact hq _ _ h2 r2 H2 _ (k1.trans k2) hh2 ⟨v, vs, rfl, p1.mono k2, p2⟩
def wTup (w : WA) : WE := fun env ah q x => w env ah (fun ds ah1 => ds.length ≤ sizeLine ∧ q (.tup ds) ah1) x
theorem de_tup {x1 : Nat} (h : DA X es ws) : DE X (.Tuple es x1 pos) (wTup ws) := fun W tk =>
  (pe_tup (h W tk)).weak fun s H Q ⟨r, env, ah, q, x, he, hh, hw, hq, hx⟩ => by
    refine ⟨r, env, ah, _, x, he, hh, hw, fun ds ah1 h1 r1 H1 vs k1 hh1 p1 => ⟨by rw [p1.length]; exact h1.1, fun p hp => newT_ok hh1 p1 h1.2 (hq.step k1) hp⟩, hx⟩
def wLst (w : WA) : WE := fun env ah q x => w env ah (fun ds ah1 => ds.length ≤ sizeLine ∧ newL ds ah1 q) x
theorem de_lst (h : DA X es ws) : DE X (.List es pos) (wLst ws) := fun W tk =>
  (pe_lst (h W tk)).weak fun s H Q ⟨r, env, ah, q, x, he, hh, hw, hq, hx⟩ => by
    refine ⟨r, env, ah, _, x, he, hh, hw, fun ds ah1 h1 r1 H1 vs k1 hh1 p1 => ⟨by rw [p1.length]; exact h1.1, fun p hp => newL_ok hh1 p1 h1.2 (hq.step k1) hp⟩, hx⟩

/-! ### tests -/
def wTst (w : WE) : WT := fun env ah q x => w env ah (fun d ah1 => match d with
  | .bl b => q b ah1
  | _ => False) x
theorem LE.tst {W : WX} {s : L2.St} {H : Hp} {Q : Bool → Hp → Prop} (h : LT K (wTst we) W s H Q) : LE K we W s H fun v H1 => ∃ k, v = .bl k ∧ Q k H1 := by
  obtain ⟨r, env, ah, q, x, he, hh, hw, hq, hx⟩ := h
  refine ⟨r, env, ah, _, x, he, hh, hw, fun d ah1 h1 r1 H1 v k1 hh1 p1 => ?_, hx⟩
  cases d <;> first | exact h1.elim | skip
  exact ⟨_, p1, hq _ _ h1 r1 H1 k1 hh1⟩
theorem dt_val (h : DE X e we) (he : ∀ whole, isTrue e X.env whole = (do let v ← whole; standAt e.pos; holding [v] (truthy v)) := by intro _; rfl) : DT X e (wTst we) := fun W tk =>
  (pt_val (h W tk) he).weak fun s H Q h => LE.tst h
theorem LT.bin {f : F2} {r2 : R2} {W : WX} {s : L2.St} {H : Hp} {Q : Bool → Hp → Prop} (ho : OpD K r2 f) (h : LT K (wTst (wBin f wa wb)) W s H Q) : tTest (tOp r2 (LE K wa W) (LE K wb W)) s H Q :=
  LE.bin ho (LE.tst h)
theorem dt_cmp {op : CmpOp} {f : F2} (o : Bop X (compareOp op) f) (ha : DE X a wa) (hb : DE X b wb) (hm : behindInMarks op b = false) : DT X (.Compare a [op] [b] pos) (wTst (wBin f wa wb)) := fun W tk => by
  obtain ⟨r2, h1, h2⟩ := o.ex
  exact (pt_cmpR h1 (ha W tk) (hb W tk) hm).weak fun s H Q h => LT.bin h2 h
def wNot (t : WT) : WT := fun env ah q x => t env ah (fun b ah1 => q (!b) ah1) x
theorem dt_not (h : DT X a ta) : DT X (.UnaryOp .Not a pos) (wNot ta) := fun W tk =>
  (pt_not (h W tk)).weak fun s H Q ⟨r, env, ah, q, x, he, hh, hw, hq, hx⟩ => ⟨r, env, ah, _, x, he, hh, hw, fun d ah1 h1 r1 H1 k1 hh1 => hq _ _ h1 r1 H1 k1 hh1, hx⟩
def wAnd (t u : WT) : WT := fun env ah q x => t env ah (fun b ah1 => if b = true then u env ah1 q x else q false ah1) x
def wOr (t u : WT) : WT := fun env ah q x => t env ah (fun b ah1 => if b = true then q true ah1 else u env ah1 q x) x
variable {rest : List Expr}
theorem dw_and1 (h : DT X a ta) : DWt X (.BoolOp .And [a] pos) ta := fun W tk => pw_and1 (h W tk)
theorem dw_or1 (h : DT X a ta) : DWt X (.BoolOp .Or [a] pos) ta := fun W tk => pw_or1 (h W tk)
theorem LT.seq {W : WX} {s : L2.St} {H : Hp} {Q : Bool → Hp → Prop} (h : LT K (wAnd ta tb) W s H Q) : tAnd (LT K ta W) (LT K tb W) s H Q := by
  obtain ⟨r, env, ah, q, x, he, hh, hw, hq, hx⟩ := h
  refine ⟨r, env, ah, _, x, he, hh, hw, fun d ah1 h1 r1 H1 k1 hh1 => ?_, hx⟩
  cases d with
  | true => exact ⟨r1, env, ah1, q, x, he.mono k1, hh1, h1, hq.step k1, hx.step k1⟩
  | false => exact hq _ _ h1 r1 H1 k1 hh1
theorem LT.seqO {W : WX} {s : L2.St} {H : Hp} {Q : Bool → Hp → Prop} (h : LT K (wOr ta tb) W s H Q) : tOr (LT K ta W) (LT K tb W) s H Q := by
  obtain ⟨r, env, ah, q, x, he, hh, hw, hq, hx⟩ := h
  refine ⟨r, env, ah, _, x, he, hh, hw, fun d ah1 h1 r1 H1 k1 hh1 => ?_, hx⟩
  cases d with
  | false => exact ⟨r1, env, ah1, q, x, he.mono k1, hh1, h1, hq.step k1, hx.step k1⟩
  | true => exact hq _ _ h1 r1 H1 k1 hh1
theorem dw_and (h : DT X a ta) (h2 : DWt X (.BoolOp .And (b :: rest) pos) tb) : DWt X (.BoolOp .And (a :: b :: rest) pos) (wAnd ta tb) := fun W tk => (pw_and (h W tk) (h2 W tk)).weak fun s H Q h => LT.seq h
theorem dw_or (h : DT X a ta) (h2 : DWt X (.BoolOp .Or (b :: rest) pos) tb) : DWt X (.BoolOp .Or (a :: b :: rest) pos) (wOr ta tb) := fun W tk => (pw_or (h W tk) (h2 W tk)).weak fun s H Q h => LT.seqO h
theorem DWt.dt (h : DWt X a ta) : DT X a ta := fun W tk => (h W tk).pt
/-- as values -/
def wAndV (a b : WE) : WE := fun env ah q x => a env ah (fun d ah1 => match d with
  | .bl true => b env ah1 q x
  | .bl false => q (.bl false) ah1
  | _ => False) x
def wOrV (a b : WE) : WE := fun env ah q x => a env ah (fun d ah1 => match d with
  | .bl false => b env ah1 q x
  | .bl true => q (.bl true) ah1
  | _ => False) x
def wNotV (a : WE) : WE := fun env ah q x => a env ah (fun d ah1 => match d with
  | .bl b => q (.bl (!b)) ah1
  | _ => False) x
theorem de_one {op : BoolOp} (h : DE X a wa) : DE X (.BoolOp op [a] pos) wa := fun W tk => pe_one (h W tk)
theorem de_and (h : DE X a wa) (h2 : DE X (.BoolOp .And (b :: rest) pos) wb) : DE X (.BoolOp .And (a :: b :: rest) pos) (wAndV wa wb) := fun W tk =>
  (pe_and (h W tk) (h2 W tk)).weak fun s H Q ⟨r, env, ah, q, x, he, hh, hw, hq, hx⟩ => by
    refine ⟨r, env, ah, _, x, he, hh, hw, fun d ah1 h1 r1 H1 v k1 hh1 p1 => ?_, hx⟩
    cases d with
    | bl z =>
      cases z with
      | true => exact ⟨true, p1, ⟨r1, env, ah1, q, x, he.mono k1, hh1, h1, hq.step k1, hx.step k1⟩⟩
      | false => exact ⟨false, p1, hq _ _ h1 r1 H1 _ k1 hh1 rfl⟩
    | _ => exact h1.elim
theorem de_or (h : DE X a wa) (h2 : DE X (.BoolOp .Or (b :: rest) pos) wb) : DE X (.BoolOp .Or (a :: b :: rest) pos) (wOrV wa wb) := fun W tk =>
  (pe_or (h W tk) (h2 W tk)).weak fun s H Q ⟨r, env, ah, q, x, he, hh, hw, hq, hx⟩ => by
    refine ⟨r, env, ah, _, x, he, hh, hw, fun d ah1 h1 r1 H1 v k1 hh1 p1 => ?_, hx⟩
    cases d with
    | bl z =>
      cases z with
      | false => exact ⟨false, p1, ⟨r1, env, ah1, q, x, he.mono k1, hh1, h1, hq.step k1, hx.step k1⟩⟩
      | true => exact ⟨true, p1, hq _ _ h1 r1 H1 _ k1 hh1 rfl⟩
    | _ => exact h1.elim
theorem de_not (h : DE X a wa) : DE X (.UnaryOp .Not a pos) (wNotV wa) := fun W tk =>
  (pe_not (h W tk)).weak fun s H Q ⟨r, env, ah, q, x, he, hh, hw, hq, hx⟩ => by
    refine ⟨r, env, ah, _, x, he, hh, hw, fun d ah1 h1 r1 H1 v k1 hh1 p1 => ?_, hx⟩
    cases d <;> first | exact h1.elim | skip
    exact ⟨_, p1, hq _ _ h1 r1 H1 _ k1 hh1 rfl⟩
def wIfE (t : WT) (a b : WE) : WE := fun env ah q x => t env ah (fun c ah1 => if c = true then a env ah1 q x else b env ah1 q x) x
theorem de_if (hc : DT X c tc) (ha : DE X a wa) (hb : DE X b wb) : DE X (.IfExp c a b pos) (wIfE tc wa wb) := fun W tk =>
  (pe_ifExp (hc W tk) (ha W tk) (hb W tk)).weak fun s H Q ⟨r, env, ah, q, x, he, hh, hw, hq, hx⟩ => by
    refine ⟨r, env, ah, _, x, he, hh, hw, fun d ah1 h1 r1 H1 k1 hh1 => ?_, hx⟩
    cases d with
    | true => exact ⟨r1, env, ah1, q, x, he.mono k1, hh1, h1, hq.step k1, hx.step k1⟩
    | false => exact ⟨r1, env, ah1, q, x, he.mono k1, hh1, h1, hq.step k1, hx.step k1⟩
def wNeg (a : WE) : WE := fun env ah q x => a env ah (fun d ah1 => match d with
  | .int i => q (.int (-i)) ah1
  | _ => False) x
theorem de_neg (h : DE X a wa) : DE X (.UnaryOp .USub a pos) (wNeg wa) := fun W tk =>
  (pe_un un_neg (h W tk)).weak fun s H Q ⟨r, env, ah, q, x, he, hh, hw, hq, hx⟩ => by
    refine ⟨r, env, ah, _, x, he, hh, hw, fun d ah1 h1 r1 H1 v k1 hh1 p1 => ?_, hx⟩
    cases d <;> first | exact h1.elim | skip
    exact ⟨_, p1, hq _ _ h1 r1 H1 _ k1 hh1 rfl⟩
/-- a < b < c -/
def wChain (f g : F2) (a b c : WE) : WE := fun env ah q x => a env ah (fun d1 ah1 => b env ah1 (fun d2 ah2 => f d1 d2 ah2 fun d ah3 => match d with
  | .bl true => c env ah3 (fun d3 ah4 => g d2 d3 ah4 q) x
  | .bl false => q (.bl false) ah3
  | _ => False) x) x
theorem LE.chain {f g : F2} {r2 r3 : R2} {W : WX} {s : L2.St} {H : Hp} {Q : VK} (ho : OpD K r2 f) (ho3 : OpD K r3 g) (h : LE K (wChain f g wa wb wc) W s H Q) : tChain r2 r3 (LE K wa W) (LE K wb W) (LE K wc W) s H Q := by
  obtain ⟨r, env, ah, q, x, he, hh, hw, hq, hx⟩ := h
  refine ⟨r, env, ah, _, x, he, hh, hw, fun d1 ah1 h1 r1 H1 v k1 hh1 p1 => ?_, hx⟩
  refine ⟨r1, env, ah1, _, x, he.mono k1, hh1, h1, fun d2 ah2 h2 r2 H2 u k2 hh2 p2 => ?_, hx.step k1⟩
  refine ho r2 H2 ah2 d1 d2 v u _ _ hh2 (p1.mono k2) p2 h2 fun d ah3 h3 r3 H3 w' k3 hh3 p3 => ?_
  cases d with
  | bl z =>
    have k13 := k1.trans (k2.trans k3)
    cases z with
    | true =>
      refine ⟨true, p3, ⟨r3, env, ah3, _, x, he.mono k13, hh3, h3, fun d4 ah4 h4 r4 H4 u4 k4 hh4 p4 => ?_, hx.step k13⟩⟩
      exact ho3 r4 H4 ah4 d2 d4 u u4 q Q hh4 (p2.mono (k3.trans k4)) p4 h4 (hq.step (k13.trans k4))
    | false => exact ⟨false, p3, hq _ _ h3 r3 H3 _ k13 hh3 rfl⟩
  | _ => exact h3.elim
theorem de_chain {op op' : CmpOp} {f g : F2} (o : Bop X (compareOp op) f) (o' : Bop X (compareOp op') g) (ha : DE X a wa) (hb : DE X b wb) (hc : DE X c wc) (hm : lastMarks [op, op'] [b, c] = false := by with_unfolding_all rfl) :
    DE X (.Compare a [op, op'] [b, c] pos) (wChain f g wa wb wc) := fun W tk => by
  obtain ⟨r2, q1, q2⟩ := o.ex
  obtain ⟨r3, q3, q4⟩ := o'.ex
  exact (pe_chain q1 q3 (ha W tk) (hb W tk) (hc W tk) hm).weak fun s H Q h => LE.chain q2 q4 h
theorem dt_chain {op op' : CmpOp} {f g : F2} (o : Bop X (compareOp op) f) (o' : Bop X (compareOp op') g) (ha : DE X a wa) (hb : DE X b wb) (hc : DE X c wc) (hm : lastMarks [op, op'] [b, c] = false := by with_unfolding_all rfl) :
    DT X (.Compare a [op, op'] [b, c] pos) (wTst (wChain f g wa wb wc)) := fun W tk => by
  obtain ⟨r2, q1, q2⟩ := o.ex
  obtain ⟨r3, q3, q4⟩ := o'.ex
  exact (pt_chain q1 q3 (ha W tk) (hb W tk) (hc W tk) hm).weak fun s H Q h => LE.chain q2 q4 (LE.tst h)
end
end Z
namespace Z
open PySem PySem.Spec PyProof.Rows L2
section
variable {X : Cx} {K : PySem.W.Frag} {pos : Pos} {a b c e : Expr} {es : List Expr} {wa wb wc we : WE} {ta tb tc : WT} {ws : WA} {s1 : Stmt} {ss : List Stmt} {u v w : WS}

/-! ### dicts: an item, a store -/
def valD (kvs : List (Key × D)) (k : Key) : Option D := (kvs.find? fun kv => decide (kv.1 = k)).map (·.2)
def putD (kvs : List (Key × D)) (k : Key) (d : D) : List (Key × D) :=
  if (kvs.any fun kv => decide (kv.1 = k)) = true then kvs.map (fun kv => if kv.1 = k then (kv.1, d) else kv) else kvs ++ [(k, d)]
def keyD : D → Option Key
  | .int i => some (.inl i)
  | .str x => some (.inr x)
  | _ => none
theorem keyD_rep {r : List Addr} {H : Hp} {d : D} {v : V} {k : Key} (h : Rep K r H d v) (e : keyD d = some k) : v = kV k := by
  cases d <;> first | cases e | skip
  · exact h
  · exact h
theorem valD_rep {r : List Addr} {H : Hp} (k : Key) : ∀ {kvs : List (Key × D)} {vs : List (Key × V)} {d : D}, RepF K r H kvs vs → valD kvs k = some d → ∃ v, valV vs k = some v ∧ Rep K r H d v
  | [], _, _, h, e => by cases e
  | (k', d') :: l, _, d, ⟨v, vr, e, p, q⟩, e2 => by
    subst e
    by_cases hk : k' = k
    · refine ⟨v, valV_pos hk, ?_⟩
      have : valD ((k', d') :: l) k = some d' := by simp [valD, List.find?_cons, hk]
      rw [this] at e2; cases e2
      exact p
    · rw [valV_neg (p := (k', v)) hk]
      have : valD ((k', d') :: l) k = valD l k := by simp [valD, List.find?_cons, hk]
      rw [this] at e2
      exact valD_rep k q e2
theorem valD_none {r : List Addr} {H : Hp} (k : Key) : ∀ {kvs : List (Key × D)} {vs : List (Key × V)}, RepF K r H kvs vs → valD kvs k = none → valV vs k = none
  | [], _, h, e => by cases h; rfl
  | (k', d') :: l, _, ⟨v, vr, e, p, q⟩, e2 => by
    subst e
    by_cases hk : k' = k
    · have : valD ((k', d') :: l) k = some d' := by simp [valD, List.find?_cons, hk]
      rw [this] at e2; cases e2
    · rw [valV_neg (p := (k', v)) hk]
      have : valD ((k', d') :: l) k = valD l k := by simp [valD, List.find?_cons, hk]
      rw [this] at e2
      exact valD_none k q e2
theorem RepF.length {α : Type} {r : List Addr} {H : Hp} : ∀ {l : List (α × D)} {vs : List (α × V)}, RepF K r H l vs → vs.length = l.length
  | [], _, h => by cases h; rfl
  | (_, _) :: _, _, ⟨v, vr, e, h, q⟩ => by subst e; simp [RepF.length q]
theorem RepF.append {α : Type} {r : List Addr} {H : Hp} : ∀ {l m : List (α × D)} {vs us : List (α × V)}, RepF K r H l vs → RepF K r H m us → RepF K r H (l ++ m) (vs ++ us)
  | [], _, _, _, h, q => by cases h; exact q
  | (_, _) :: _, _, _, _, ⟨v, vr, e, h, q⟩, p => by subst e; exact ⟨v, _, rfl, h, RepF.append q p⟩
theorem repF_any {r : List Addr} {H : Hp} (k : Key) : ∀ {l : List (Key × D)} {vs : List (Key × V)}, RepF K r H l vs → (vs.any fun kv => decide (kv.1 = k)) = l.any fun kv => decide (kv.1 = k)
  | [], _, h => by cases h; rfl
  | (_, _) :: _, _, ⟨v, vr, e, h, q⟩ => by subst e; simp [repF_any k q]
theorem repF_map {r : List Addr} {H : Hp} (k : Key) {d : D} {v : V} (h : Rep K r H d v) : ∀ {l : List (Key × D)} {vs : List (Key × V)}, RepF K r H l vs → RepF K r H (l.map (fun kv => if kv.1 = k then (kv.1, d) else kv)) (vs.map (fun kv => if kv.1 = k then (kv.1, v) else kv))
  | [], _, h => by cases h; exact rfl
  | (k', _) :: _, _, ⟨v', vr, e, p, q⟩ => by
    subst e
    have ih := repF_map k h q
    by_cases hk : k' = k
    · subst hk
      simp only [List.map_cons, if_pos rfl]
      exact ⟨v, _, rfl, h, ih⟩
    · simp only [List.map_cons, if_neg hk]
      exact ⟨v', _, rfl, p, ih⟩
theorem putD_rep {r : List Addr} {H : Hp} (k : Key) {d : D} {v : V} {l : List (Key × D)} {vs : List (Key × V)} (h : RepF K r H l vs) (p : Rep K r H d v) : RepF K r H (putD l k d) (putK vs k v) := by
  unfold putD putK
  rw [repF_any k h]
  split
  · exact repF_map k p h
  · exact h.append ⟨v, [], rfl, p, rfl⟩
/-- a[i] of a dict as the layer's IxR -/
theorem ix_dict (hu : X.A.units + 1 < cLine) : IxR X (fun x y H Q => ∃ a v, x = .ref a ∧ DGet H a y (some v) ∧ Q v H) := by
  intro value slice pins s σ H x y v u Q I rx ry h hs
  obtain ⟨a, v', rfl, g, q⟩ := h
  obtain rfl : v = Value.ref a := rx
  have hT := dict_typeIs I g
  have h2 : wpAny (model X.prog X.w) X.A (getItem (.ref a) u) (EP X pins σ Q) X.xe s := d_getItem hu I g ry fun w' s3 I3 rw' => ⟨v', H, I3, rw', q⟩
  unfold subscriptTail
  refine wpAny_bind ?_
  rw [getitemInPython_of_ne hT.not_modules]
  refine wpAny_bind (wpAny_specialOf hT PySem.F.slot_dict_getitem.lookup ?_)
  have fin : wpAny (model X.prog X.w) X.A (subscripted slice false (.ref a) u) (fun r s3 => wpAny (model X.prog X.w) X.A (letTemporaryGo value (.ref a) r >>= fun _ => pure r) (EP X pins σ Q) X.xe s3) X.xe s := by
    rw [hs]
    exact wpAny_operating (wpAny_mono h2 (fun r s3 h3 => wpAny_bind (wpAny_letTemporaryGo (wpAny_pure h3))) fun _ _ x => x)
  first
    | exact wpAny_pure (wpAny_bind fin)
    | exact wpAny_bind (wpAny_pure (wpAny_bind fin))
    | exact wpAny_bind fin
/-- an item of a sequence or a dict -/
def fAt : F2 := fun d1 d2 ah q => match d1, d2 with
  | .ref n, .str z => (match ah[n]? with
    | some (.dct kvs) => (match valD kvs (.inr z) with
      | some d => q d ah
      | none => False)
    | _ => False)
  | d1, d2 => fIx d1 d2 ah q
theorem de_at (hu : X.A.units + 1 < cLine) (ha : DE X a wa) (hb : DE X b wb) (hs : PlainIx b) : DE X (.Subscript a b pos) (wBin fAt wa wb) := fun W tk =>
  (pe_ix (ix_seq.or (ix_dict hu)) (ha W tk) (hb W tk) hs).weak fun s H Q h => LE.bin (fun r H ah d1 d2 v u q Q hh p1 p2 w hq => by
    unfold fAt at w
    split at w
    · split at w
      · rename_i n z _ kvs e
        split at w
        · rename_i d e2
          obtain ⟨p, e1, rfl⟩ := p1
          obtain ⟨vs, f, rv⟩ := hh.ob _ _ _ e1 e
          obtain ⟨v', e3, rd⟩ := valD_rep _ rv e2
          exact .inr ⟨p, v', rfl, .inl ⟨vs, .inr z, .inl f, p2, e3.symm⟩, hq.here w hh rd⟩
        · exact w.elim
      · exact w.elim
    · exact .inl (ixD r H ah _ _ v u q Q hh p1 p2 w hq)) h

/-! ### blocks, small statements -/
def wNext : WS := fun env ah dn _ => dn.nx env ah
def wSeq (u v : WS) : WS := fun env ah dn x => u env ah { dn with nx := fun env1 ah1 => v env1 ah1 dn x } x
theorem dss_nil : DSs X [] wNext := fun W _ => pss_nil.weak fun Dn s H ⟨r, env, ah, dn, x, he, hh, hw, hd, hx⟩ => hd.nx _ _ hw r H s Kp.refl hh he
theorem LS.seq {W : WX} {Dn : Ends} {s : L2.St} {H : Hp} (h : LS K (wSeq u v) W Dn s H) : tSeq (LS K u W) (LS K v W) Dn s H := by
  obtain ⟨r, env, ah, dn, x, he, hh, hw, hd, hx⟩ := h
  exact ⟨r, env, ah, _, x, he, hh, hw, ⟨fun env1 ah1 h1 r1 H1 s1 k1 hh1 he1 => ⟨r1, env1, ah1, dn, x, he1, hh1, h1, hd.step k1, hx.step k1⟩, hd.rt, hd.bk, hd.ct⟩, hx⟩
theorem dss_cons (h1 : DS X s1 u) (h2 : DSs X ss v) : DSs X (s1 :: ss) (wSeq u v) := fun W tk => (pss_cons (h1 W tk) (h2 W tk)).weak fun Dn s H h => LS.seq h
theorem dss_one (h1 : DS X s1 u) : DSs X [s1] u := fun W tk => pss_one (h1 W tk)
theorem ds_pass : DS X (.Pass pos) wNext := fun W _ => ps_pass.weak fun Dn s H ⟨r, env, ah, dn, x, he, hh, hw, hd, hx⟩ => hd.nx _ _ hw r H s Kp.refl hh he
def wNever : WS := fun _ _ _ _ => False
theorem ds_never : DS X s1 wNever := fun W _ => ps_never.weak fun Dn s H ⟨r, env, ah, dn, x, he, hh, hw, hd, hx⟩ => hw
theorem dss_never : DSs X ss wNever := fun W _ => pss_never.weak fun Dn s H ⟨r, env, ah, dn, x, he, hh, hw, hd, hx⟩ => hw
def wBreak : WS := fun env ah dn _ => dn.bk env ah
def wCont : WS := fun env ah dn _ => dn.ct env ah
theorem ds_break : DS X (.Break pos) wBreak := fun W _ => ps_break.weak fun Dn s H ⟨r, env, ah, dn, x, he, hh, hw, hd, hx⟩ => hd.bk _ _ hw r H s Kp.refl hh he
theorem ds_continue : DS X (.Continue pos) wCont := fun W _ => ps_continue.weak fun Dn s H ⟨r, env, ah, dn, x, he, hh, hw, hd, hx⟩ => hd.ct _ _ hw r H s Kp.refl hh he
/-- a statement's own exceptions come at its slots -/
abbrev atE (x : QXS) (env : En) : QX := fun e ah => x e env ah
theorem CnXS.at_ {r : List Addr} {H : Hp} {env : En} {s : L2.St} {x : QXS} {W : WX} (he : ERep K r H env s) (h : CnXS K r H x W) : CnX K r H (atE x env) (fun c d H' => W c d s H') :=
  fun C fs ah a r' H' dx k hh q => h C fs env ah a r' H' s dx k hh (he.mono k) q
def wExpr (w : WE) : WS := fun env ah dn x => w env ah (fun _ ah1 => dn.nx env ah1) (atE x env)
theorem ds_expr (h : DE X e we) (hs : swapsWith e none pos.line X.env = pure false := by rfl) : DS X (.Expr e pos) (wExpr we) := fun W tk =>
  (ps_expr (h W tk) hs).weak fun Dn s H ⟨r, env, ah, dn, x, he, hh, hw, hd, hx⟩ =>
    ⟨r, env, ah, _, _, he, hh, hw, fun d ah1 h1 r1 H1 v k1 hh1 p1 => hd.nx _ _ h1 r1 H1 s k1 hh1 (he.mono k1), hx.at_ he⟩
def wRet (w : WE) : WS := fun env ah dn x => w env ah dn.rt (atE x env)
theorem ds_ret (h : DE X e we) : DS X (.Return (some e) pos) (wRet we) := fun W tk =>
  (ps_ret (h W tk)).weak fun Dn s H ⟨r, env, ah, dn, x, he, hh, hw, hd, hx⟩ => ⟨r, env, ah, _, _, he, hh, hw, hd.rt, hx.at_ he⟩
def wRetN : WS := fun _ ah dn _ => dn.rt .non ah
theorem ds_retN : DS X (.Return none pos) wRetN := fun W tk =>
  ps_retN.weak fun Dn s H ⟨r, env, ah, dn, x, he, hh, hw, hd, hx⟩ => hd.rt.here hw hh rfl
def wIf (t : WT) (u v : WS) : WS := fun env ah dn x => t env ah (fun b ah1 => if b = true then u env ah1 dn x else v env ah1 dn x) (atE x env)
theorem ds_if {sa sb : List Stmt} (hc : DT X c tc) (ha : DSs X sa u) (hb : DSs X sb v) : DS X (.If c sa sb pos) (wIf tc u v) := fun W tk =>
  (ps_if (hc W tk) (ha W tk) (hb W tk)).weak fun Dn s H ⟨r, env, ah, dn, x, he, hh, hw, hd, hx⟩ => by
    refine ⟨r, env, ah, _, _, he, hh, hw, fun d ah1 h1 r1 H1 k1 hh1 => ?_, hx.at_ he⟩
    cases d with
    | true => exact ⟨r1, env, ah1, dn, x, he.mono k1, hh1, h1, hd.step k1, hx.step k1⟩
    | false => exact ⟨r1, env, ah1, dn, x, he.mono k1, hh1, h1, hd.step k1, hx.step k1⟩

/-! ### targets -/
abbrev WG := D → En → AH → (En → AH → Prop) → Prop
abbrev WGs := List D → En → AH → (En → AH → Prop) → Prop
def LG (K : PySem.W.Frag) (g : WG) : TG := fun v s H Q => ∃ r env ah d q, ERep K r H env s ∧ HRep K r H ah ∧ Rep K r H d v ∧ g d env ah q ∧ CnS K r H q Q
def LGs (K : PySem.W.Frag) (g : WGs) : TGs := fun v s H Q => ∃ r env ah d q, ERep K r H env s ∧ HRep K r H ah ∧ Reps K r H d v ∧ g d env ah q ∧ CnS K r H q Q
def DG (X : Cx) (e : Expr) (g : WG) : Prop := PG X e (LG X.K g)
def DGs (X : Cx) (es : List Expr) (g : WGs) : Prop := PGs X es (LGs X.K g)
theorem _root_.L2.PG.weak {e : Expr} {t t' : TG} (h : PG X e t) (i : ∀ v s H Q, t' v s H Q → t v s H Q) : PG X e t' := ⟨fun pins s σ H v u Q I rv q => h.run pins s σ H v u Q I rv (i v σ H Q q)⟩
theorem _root_.L2.PGs.weak {e : List Expr} {t t' : TGs} (h : PGs X e t) (i : ∀ v s H Q, t' v s H Q → t v s H Q) : PGs X e t' := ⟨fun pins s σ H v u Q I rv q => h.run pins s σ H v u Q I rv (i v σ H Q q)⟩
def gN (i : Nat) : WG := fun d env ah q => q (Z.st env i d) ah
theorem dg_name {i : Nat} {x : Str} (hN : X.N.Nodup) (hi : X.N[i]? = some x) (hx : Loc X.env.scope x) (hf : X.fn x = true ∨ X.env.scope.names.lookup x = some .local := by first | exact .inl rfl | exact .inr rfl | assumption) : DG X (.Name x pos) (gN i) :=
  (pg_name hN hi hx hf).weak fun v s H Q ⟨r, env, ah, d, q, he, hh, p, hg, hq⟩ => hq _ _ hg r H _ Kp.refl hh (he.set i p)
def gsN : WGs := fun ds env ah q => match ds with
  | [] => q env ah
  | _ => False
def gsC (g : WG) (gs : WGs) : WGs := fun ds env ah q => match ds with
  | d :: l => g d env ah fun env1 ah1 => gs l env1 ah1 q
  | _ => False
theorem dgs_nil : DGs X [] gsN := pgs_nil.weak fun v s H Q ⟨r, env, ah, d, q, he, hh, p, hg, hq⟩ => by
  cases d with
  | nil => exact ⟨p, hq _ _ hg r H _ Kp.refl hh he⟩
  | cons _ _ => exact hg.elim
theorem dgs_cons {g : WG} {gs : WGs} (h1 : DG X e g) (h2 : DGs X es gs) (hs : (assignEach (e :: es) X.env).map (·.2) = assign e X.env :: (assignEach es X.env).map (·.2) := by rfl) : DGs X (e :: es) (gsC g gs) :=
  (pgs_cons h1 h2 hs).weak fun v s H Q ⟨r, env, ah, d, q, he, hh, p, hg, hq⟩ => by
    cases d with
    | nil => exact hg.elim
    | cons d l =>
      obtain ⟨v, vr, e, p1, p2⟩ := p
      exact ⟨v, vr, e, r, env, ah, d, _, he, hh, p1, hg, fun env1 ah1 h1 r1 H1 s1 k1 hh1 he1 => ⟨r1, env1, ah1, l, q, he1, hh1, p2.mono k1, h1, hq.step k1⟩⟩
def gT (n : Nat) (gs : WGs) : WG := fun d env ah q => match d with
  | .tup l => l.length = n ∧ gs l env ah q
  | _ => False
theorem dg_tup {gs : WGs} {k n : Nat} (hc : X.calm = true) (h : DGs X es gs) (hn : (assignEach es X.env).length = n := by rfl) (hst : (assignEach es X.env).findIdx? (·.1) = none := by rfl) : DG X (.Tuple es k pos) (gT n gs) :=
  (pg_tup hc h hn hst).weak fun v s H Q ⟨r, env, ah, d, q, he, hh, p, hg, hq⟩ => by
    cases d with
    | tup l =>
      obtain ⟨a, xs, rfl, sq, rv⟩ := p
      exact ⟨a, xs, rfl, sq, by rw [rv.length]; exact hg.1, r, env, ah, l, q, he, hh, rv, hg.2, hq⟩
    | _ => exact hg.elim
def wAsg (w : WE) (g : WG) : WS := fun env ah dn x => w env ah (fun d ah1 => g d env ah1 dn.nx) (atE x env)
theorem ds_asg {tg : Expr} {g : WG} (he : DE X e we) (hg : DG X tg g) (hs : swapsWithSole [tg] e pos.line X.env = pure false := by rfl) (hw : swappedStores [tg] e X.env = pure none := by rfl)
    (h1 : (assignEach [tg] X.env).map (·.2) = [assign tg X.env] := by rfl) : DS X (.Assign [tg] e pos) (wAsg we g) := fun W tk =>
  (ps_asg (he W tk) hg hs hw h1).weak fun Dn s H ⟨r, env, ah, dn, x, he, hh, hw, hd, hx⟩ =>
    ⟨r, env, ah, _, _, he, hh, hw, fun d ah1 h1 r1 H1 v k1 hh1 p1 => ⟨r1, env, ah1, d, _, he.mono k1, hh1, p1, h1, hd.nx.step k1⟩, hx.at_ he⟩
theorem ds_set {i : Nat} {x : Str} {pos' : Pos} (hN : X.N.Nodup) (hi : X.N[i]? = some x) (hx : Loc X.env.scope x) (he : DE X e we) (hs : swapsWith e (some (.Name x pos')) pos.line X.env = pure false := by rfl)
    (hf : X.fn x = true ∨ X.env.scope.names.lookup x = some .local := by first | exact .inl rfl | exact .inr rfl | assumption) : DS X (.Assign [.Name x pos'] e pos) (wAsg we (gN i)) := fun W tk =>
  (ps_set hN hi hx (he W tk) hs hf).weak fun Dn s H ⟨r, env, ah, dn, x, he, hh, hw, hd, hx⟩ =>
    ⟨r, env, ah, _, _, he, hh, hw, fun d ah1 h1 r1 H1 v k1 hh1 p1 => hd.nx _ _ h1 r1 H1 _ k1 hh1 ((he.mono k1).set i p1), hx.at_ he⟩
/-- a, b = x, y of plain local names -/
def wPar (i j : Nat) (w : WA) : WS := fun env ah dn x => w env ah (fun ds ah1 => match ds with
  | [d, d'] => dn.nx (Z.st (Z.st env i d) j d') ah1
  | _ => False) (atE x env)
theorem ds_par {i j : Nat} {x y : Str} {px py pt : Pos} {kt k2 pt2} (hc : X.calm = true) (hN : X.N.Nodup) (hi : X.N[i]? = some x) (hj : X.N[j]? = some y) (hij : i ≠ j)
    (hx : X.env.scope.names.lookup x = some .local) (hy : X.env.scope.names.lookup y = some .local) (ha : DA X [a, b] ws)
    (hw : swappedStores [.Tuple [.Name x px, .Name y py] kt pt] (.Tuple [a, b] k2 pt2) X.env = pure (some [x, y]))
    (hs : swapsWithSole [.Tuple [.Name x px, .Name y py] kt pt] (.Tuple [a, b] k2 pt2) pos.line X.env = pure false := by rfl) :
    DS X (.Assign [.Tuple [.Name x px, .Name y py] kt pt] (.Tuple [a, b] k2 pt2) pos) (wPar i j ws) := fun W tk =>
  (ps_par hc hN hi hj hij hx hy (ha W tk) hw hs).weak fun Dn s H ⟨r, env, ah, dn, x, he, hh, hw, hd, hx⟩ =>
    ⟨r, env, ah, _, _, he, hh, hw, fun ds ah1 h1 r1 H1 vs k1 hh1 p1 => by
      dsimp only at h1
      split at h1
      · obtain ⟨v1, vr, rfl, q1, v2, vr2, rfl, q2, rfl⟩ := p1
        exact ⟨v1, v2, rfl, hd.nx _ _ h1 r1 H1 _ k1 hh1 (((he.mono k1).set i q1).set j q2)⟩
      · exact h1.elim, hx.at_ he⟩
def wPar3 (i j l : Nat) (w : WA) : WS := fun env ah dn x => w env ah (fun ds ah1 => match ds with
  | [d, d', d2] => dn.nx (Z.st (Z.st (Z.st env i d) j d') l d2) ah1
  | _ => False) (atE x env)
theorem ds_par3 {i j l : Nat} {x y z : Str} {px py pz pt : Pos} {kt k2 pt2} (hc : X.calm = true) (hN : X.N.Nodup) (hi : X.N[i]? = some x) (hj : X.N[j]? = some y) (hl : X.N[l]? = some z) (hij : i ≠ j) (hil : i ≠ l) (hjl : j ≠ l)
    (hx : X.env.scope.names.lookup x = some .local) (hy : X.env.scope.names.lookup y = some .local) (hz : X.env.scope.names.lookup z = some .local) (ha : DA X [a, b, c] ws)
    (hw : swappedStores [.Tuple [.Name x px, .Name y py, .Name z pz] kt pt] (.Tuple [a, b, c] k2 pt2) X.env = pure (some [x, y, z]))
    (hs : swapsWithSole [.Tuple [.Name x px, .Name y py, .Name z pz] kt pt] (.Tuple [a, b, c] k2 pt2) pos.line X.env = pure false := by rfl) :
    DS X (.Assign [.Tuple [.Name x px, .Name y py, .Name z pz] kt pt] (.Tuple [a, b, c] k2 pt2) pos) (wPar3 i j l ws) := fun W tk =>
  (ps_par3 hc hN hi hj hl hij hil hjl hx hy hz (ha W tk) hw hs).weak fun Dn s H ⟨r, env, ah, dn, x, he, hh, hw, hd, hx⟩ =>
    ⟨r, env, ah, _, _, he, hh, hw, fun ds ah1 h1 r1 H1 vs k1 hh1 p1 => by
      dsimp only at h1
      split at h1
      · obtain ⟨v1, vr, rfl, q1, v2, vr2, rfl, q2, v3, vr3, rfl, q3, rfl⟩ := p1
        exact ⟨v1, v2, v3, rfl, hd.nx _ _ h1 r1 H1 _ k1 hh1 ((((he.mono k1).set i q1).set j q2).set l q3)⟩
      · exact h1.elim, hx.at_ he⟩
/-- x op= e, of ints -/
def wAug (i : Nat) (f : F2) (w : WE) : WS := fun env ah dn x => match gt env i with
  | some d => w env ah (fun d2 ah1 => f d d2 ah1 fun d3 ah2 => dn.nx (Z.st env i d3) ah2) (atE x env)
  | none => False
def PIpD (X : Cx) (op : Operator) (f : F2) : Prop := ∃ t, PIp X op t ∧ OpD X.K t f
def fIAdd : F2 := fun d1 d2 ah q => match d1, d2 with
  | .int i, .int j => q (.int (i + j)) ah
  | _, _ => False
theorem ip_addD : PIpD X .Add fIAdd := ⟨_, ip_add, fun r H ah d1 d2 v u q Q hh p1 p2 w hq => by
  unfold fIAdd at w
  split at w
  · exact ⟨_, _, p1, p2, hq.here w hh rfl⟩
  · exact w.elim⟩
theorem ds_aug {i : Nat} {x : Str} {op : Operator} {f : F2} {pos' : Pos} (hN : X.N.Nodup) (hi : X.N[i]? = some x) (hx : Loc X.env.scope x) (he : DE X e we) (ho : PIpD X op f) (hf : X.fn x = true ∨ X.env.scope.names.lookup x = some .local := by first | exact .inl rfl | exact .inr rfl | assumption) :
    DS X (.AugAssign (.Name x pos') op e pos) (wAug i f we) := fun W tk => by
  obtain ⟨t, h1, h2⟩ := ho
  refine (ps_aug hN hi hx (he W tk) h1 hf).weak fun Dn s H ⟨r, env, ah, dn, x, he, hh, hw, hd, hx⟩ => ?_
  unfold wAug at hw
  split at hw
  · rename_i d e
    obtain ⟨v, e1, p⟩ := he.get e
    refine ⟨v, e1, r, env, ah, _, _, he, hh, hw, fun d2 ah1 h3 r1 H1 u k1 hh1 p1 => ?_, hx.at_ he⟩
    exact h2 r1 H1 ah1 d d2 v u _ _ hh1 (p.mono k1) p1 h3 fun d3 ah2 h4 r2 H2 z k2 hh2 p2 => hd.nx _ _ h4 r2 H2 _ (k1.trans k2) hh2 (((he.mono k1).mono k2).set i p2)
  · exact hw.elim

/-! ### o[i] = e -/
def fPut (o i d : D) (ah : AH) (k : AH → Prop) : Prop := match o, i with
  | .ref n, .str z => (match ah[n]? with
    | some (.dct kvs) => kvs.length < sizeLine ∧ k (ah.set n (.dct (putD kvs (.inr z) d)))
    | _ => False)
  | .ref n, .int i => (match ah[n]? with
    | some (.lst xs) => (match ixN xs.length i with
      | some j => k (ah.set n (.lst (xs.set j d)))
      | none => False)
    | _ => False)
  | _, _ => False
def rPut (X : Cx) : TSet := fun o i v H Q => rSetL o i v H Q ∨ ∃ a H', o = .ref a ∧ DPut H a i v H' ∧ Q H'
theorem set_any (hu : X.A.units + 1 < cLine) : PSet X (rPut X) := by
  intro pins s σ H o i v ov iv u Q I ro ri rv h
  rcases h with h | ⟨a, H', rfl, g, q⟩
  · exact set_list pins s σ H o i v ov iv u Q I ro ri rv h
  · obtain rfl : ov = Value.ref a := ro
    exact d_setItem hu I g ri rv fun s4 I4 => ⟨H', I4, q⟩
theorem put_ok {r : List Addr} {H : Hp} {ah : AH} {o i d : D} {ov iv v : V} {k : AH → Prop} {Q : Hp → Prop} (hh : HRep K r H ah) (po : Rep K r H o ov) (pi : Rep K r H i iv) (pd : Rep K r H d v) (w : fPut o i d ah k)
    (hq : ∀ ah', k ah' → ∀ H', Kp K r H r H' → HRep K r H' ah' → Q H') : rPut X ov iv v H Q := by
  unfold fPut at w
  split at w
  · split at w
    · rename_i n z _ kvs e
      obtain ⟨p, e1, rfl⟩ := po
      obtain ⟨vs, f, rv⟩ := hh.ob _ _ _ e1 e
      have kw := Kp.write (u := .dK (putK vs (.inr z) v)) hh (List.mem_of_getElem? e1)
      refine .inr ⟨p, _, rfl, .inl ⟨vs, .inr z, f, pi, by rw [rv.length]; exact w.1, rfl⟩, hq _ w.2 _ kw (hh.set e1 ⟨_, upd_same, (putD_rep _ rv pd).mono kw⟩)⟩
    · exact w.elim
  · split at w
    · rename_i n j _ xs e
      split at w
      · rename_i j' e2
        obtain ⟨p, e1, rfl⟩ := po
        obtain ⟨vs, f, rv⟩ := hh.ob _ _ _ e1 e
        have kw := Kp.write (u := .lst (vs.set j' v)) hh (List.mem_of_getElem? e1)
        exact .inl ⟨p, vs, j, j', rfl, pi, f, by rw [rv.length]; exact e2, hq _ w _ kw (hh.set e1 ⟨_, upd_same, (rv.set j' pd).mono kw⟩)⟩
      · exact w.elim
    · exact w.elim
  · exact w.elim
def wPut (v o i : WE) : WS := fun env ah dn x => v env ah (fun d ah1 => o env ah1 (fun d1 ah2 => i env ah2 (fun d2 ah3 => fPut d1 d2 d ah3 fun ah4 => dn.nx env ah4) (atE x env)) (atE x env)) (atE x env)
theorem ds_put {pos' : Pos} (hu : X.A.units + 1 < cLine) (hv : DE X e we) (ho : DE X a wa) (hi : DE X b wb)
    (ha : ∀ v, assign (.Subscript a b pos') X.env v = (do
      let ov ← holding [v] (eval a X.env)
      let iv ← holding [v, ov] (eval b X.env)
      standAt pos'
      holding [v, ov, iv] (setItem ov iv v)
      release [v, ov, iv] []) := by intro _; rfl)
    (hs : swapsWithSole [.Subscript a b pos'] e pos.line X.env = pure false := by rfl) (hw : swappedStores [.Subscript a b pos'] e X.env = pure none := by rfl)
    (h1 : (assignEach [.Subscript a b pos'] X.env).map (·.2) = [assign (.Subscript a b pos') X.env] := by rfl) : DS X (.Assign [.Subscript a b pos'] e pos) (wPut we wa wb) := fun W tk =>
  (ps_asg (hv W tk) (pg_sub (ho W tk) (hi W tk) (set_any hu) ha) hs hw h1).weak fun Dn s H ⟨r, env, ah, dn, x, he, hh, hw, hd, hx⟩ => by
    refine ⟨r, env, ah, _, _, he, hh, hw, fun d ah1 h1 r1 H1 v k1 hh1 p1 => ?_, hx.at_ he⟩
    have he1 := he.mono k1
    refine ⟨r1, env, ah1, _, _, he1, hh1, h1, fun d1 ah2 h2 r2 H2 o k2 hh2 p2 => ?_, (hx.step k1).at_ he1⟩
    have he2 := he1.mono k2
    refine ⟨r2, env, ah2, _, _, he2, hh2, h2, fun d2 ah3 h3 r3 H3 i k3 hh3 p3 => ?_, ((hx.step k1).step k2).at_ he2⟩
    exact put_ok hh3 (p2.mono k3) p3 ((p1.mono k2).mono k3) h3 fun ah4 h4 H4 k4 hh4 => hd.nx _ _ h4 r3 H4 s (k1.trans (k2.trans (k3.trans k4))) hh4 ((he2.mono k3).mono k4)
end
end Z
namespace Z
open PySem PySem.Spec PyProof.Rows L2
section
variable {X : Cx} {K : PySem.W.Frag} {pos : Pos} {a b c e tg : Expr} {es : List Expr} {wa wb wc we : WE} {ta tb tc : WT} {ws : WA} {s1 : Stmt} {ss : List Stmt} {u v w : WS}

/-! ### what is walked: its items, and that it stands -/
structure DIt where
  items : List D
  ok : AH → Prop
abbrev WI := En → AH → (DIt → AH → Prop) → QX → Prop
structure JRep (K : PySem.W.Frag) (r0 : List Addr) (H0 : Hp) (J : It) (it : DIt) : Prop where
  go : ∀ (r : List Addr) (H : Hp) (ah : AH) (i : Nat) (d : D), Kp K r0 H0 r H → HRep K r H ah → it.ok ah → it.items[i]? = some d → J.go i H ∧ ∀ x H', J.yld i H x H' → Kp K r H r H' ∧ HRep K r H' ah ∧ Rep K r H' d x
  stop : ∀ (r : List Addr) (H : Hp) (ah : AH) (i : Nat), Kp K r0 H0 r H → HRep K r H ah → it.ok ah → it.items.length ≤ i → J.stop i H
def CnI (K : PySem.W.Frag) (r : List Addr) (H : Hp) (q : DIt → AH → Prop) (R : It → Hp → Prop) : Prop := ∀ it ah, q it ah → ∀ r' H' J, Kp K r H r' H' → HRep K r' H' ah → JRep K r' H' J it → R J H'
def LI (K : PySem.W.Frag) (w : WI) (W : WX) : TI := fun s H R => ∃ r env ah q x, ERep K r H env s ∧ HRep K r H ah ∧ w env ah q x ∧ CnI K r H q R ∧ CnX K r H x (fun c d H' => W c d s H')
def DI (X : Cx) (tg iter : Expr) (w : WI) : Prop := ∀ W, Takes X W → PI X tg iter (LI X.K w W)
theorem _root_.L2.PI.weak {t t' : TI} (h : PI X tg e t) (i : ∀ s H R, t' s H R → t s H R) : PI X tg e t' := ⟨fun pins s σ H R I q => h.run pins s σ H R I (i σ H R q)⟩
def tAny (K : PySem.W.Frag) (te : TE) : TI := fun σ H R => te σ H fun x H1 =>
  (∃ a xs, x = .ref a ∧ SqL K H1 a xs ∧ R (Itl K a) H1) ∨ (∃ a xs, x = .ref a ∧ SqT K H1 a xs ∧ R (Itt K a) H1) ∨ ∃ z, x = .str z ∧ R (Its z) H1
theorem pi_any {te : TE} (h : PE X e te) : PI X tg e (tAny X.K te) := by
  refine ⟨fun pins s σ H R I q => thn (h.run pins s σ H _ I q) fun v s2 ⟨x, H2, I2, rv, w⟩ => ?_⟩
  rcases w with ⟨a, xs, rfl, sq, w⟩ | ⟨a, xs, rfl, sq, w⟩ | ⟨z, rfl, w⟩
  · cases rv
    obtain ⟨its, r1, pl, _⟩ := I2.list sq
    exact wpAny_pyIter_list pl.isList (pi_one (tk := s2.toks) I2 _ (turn_list a _) ⟨_, Heap.get?_push_size _ rfl, rfl, rfl⟩ w)
  · cases rv
    obtain ⟨its, r1, pl, _⟩ := I2.tuple sq
    exact wpAny_pyIter_tuple (show s2.heap.IsTuple a its.toArray from pl) (pi_one (tk := s2.toks) I2 _ (turn_tuple a _) ⟨_, Heap.get?_push_size _ rfl, rfl, rfl⟩ w)
  · obtain ⟨t, rfl⟩ := rv
    cases hz : z.cps.all (· < 128) with
    | false => exact wpAny_pyIter_wide hz (pi_one (tk := s2.toks) I2 _ (turn_str _ z t "str_iterator" (.inr rfl)) ⟨_, Heap.get?_push_size _ rfl, rfl, rfl⟩ w)
    | true => exact wpAny_pyIter_ascii hz (pi_one (tk := s2.toks) I2 _ (turn_str _ z t "str_ascii_iterator" (.inl rfl)) ⟨_, Heap.get?_push_size _ rfl, rfl, rfl⟩ w)
def signs (z : Str) : List D := z.cps.toList.map fun c => D.str ⟨#[c]⟩
def fIter (d : D) (ah : AH) (q : DIt → AH → Prop) : Prop := match d with
  | .tup l => q ⟨l, fun _ => True⟩ ah
  | .frl l => q ⟨l, fun _ => True⟩ ah
  | .ref n => (match ah[n]? with
    | some (.lst l) => q ⟨l, fun ah' => ah'[n]? = some (.lst l)⟩ ah
    | _ => False)
  | .str z => q ⟨signs z, fun _ => True⟩ ah
  | _ => False
def wIter (w : WE) : WI := fun env ah q x => w env ah (fun d ah1 => fIter d ah1 q) x
theorem jrep_tup {r : List Addr} {H : Hp} {a : Addr} {xs : List V} {l : List D} (sq : SqT K H a xs) (rv : Reps K r H l xs) : JRep K r H (Itt K a) ⟨l, fun _ => True⟩ where
  go := fun r1 H1 ah i d k hh _ e => by
    obtain ⟨v, e1, p⟩ := (rv.mono k).get e
    refine ⟨⟨xs, v, k.tup _ _ sq, e1⟩, fun x H' y => ?_⟩
    obtain ⟨rfl, y⟩ := y
    have e2 := y xs (k.tup _ _ sq)
    rw [e1] at e2; cases e2
    exact ⟨Kp.refl, hh, p⟩
  stop := fun r1 H1 ah i k hh _ e => ⟨xs, k.tup _ _ sq, by rw [rv.length]; exact e⟩
theorem jrep_frl {r : List Addr} {H : Hp} {a : Addr} {xs : List V} {l : List D} (sq : SqF K H a xs) (rv : Reps K r H l xs) : JRep K r H (Itl K a) ⟨l, fun _ => True⟩ where
  go := fun r1 H1 ah i d k hh _ e => by
    obtain ⟨v, e1, p⟩ := (rv.mono k).get e
    refine ⟨⟨xs, v, (k.frl _ _ sq).sq, e1⟩, fun x H' y => ?_⟩
    obtain ⟨rfl, y⟩ := y
    have e2 := y xs (k.frl _ _ sq).sq
    rw [e1] at e2; cases e2
    exact ⟨Kp.refl, hh, p⟩
  stop := fun r1 H1 ah i k hh _ e => ⟨xs, (k.frl _ _ sq).sq, by rw [rv.length]; exact e⟩
theorem jrep_lst {r : List Addr} {H : Hp} {a : Addr} {n : Nat} {l : List D} (e0 : r[n]? = some a) : JRep K r H (Itl K a) ⟨l, fun ah' => ah'[n]? = some (.lst l)⟩ where
  go := fun r1 H1 ah i d k hh ok e => by
    obtain ⟨vs, f, rv⟩ := hh.ob _ _ _ (k.pre _ _ e0) ok
    obtain ⟨v, e1, p⟩ := rv.get e
    refine ⟨⟨vs, v, .of f, e1⟩, fun x H' y => ?_⟩
    obtain ⟨rfl, y⟩ := y
    have e2 := y vs (.of f)
    rw [e1] at e2; cases e2
    exact ⟨Kp.refl, hh, p⟩
  stop := fun r1 H1 ah i k hh ok e => by
    obtain ⟨vs, f, rv⟩ := hh.ob _ _ _ (k.pre _ _ e0) ok
    exact ⟨vs, .of f, by rw [rv.length]; exact e⟩
theorem jrep_str {r : List Addr} {H : Hp} {z : Str} : JRep K r H (Its z) ⟨signs z, fun _ => True⟩ where
  go := fun r1 H1 ah i d k hh _ e => by
    unfold signs at e
    simp only [List.getElem?_map, Option.map_eq_some_iff] at e
    obtain ⟨c, e1, rfl⟩ := e
    have hi : i < z.cps.size := by
      have := (List.getElem?_eq_some_iff.mp e1).1
      simpa using this
    refine ⟨hi, fun x H' y => ?_⟩
    obtain ⟨rfl, c', e2, rfl⟩ := y
    have : c = c' := by
      rw [← Array.getElem?_toList, e1] at e2
      exact Option.some.inj e2
    subst this
    exact ⟨Kp.refl, hh, rfl⟩
  stop := fun r1 H1 ah i k hh _ e => by
    show z.cps.size ≤ i
    unfold signs at e
    simpa using e
theorem di_val (h : DE X e we) : DI X tg e (wIter we) := fun W tk =>
  (pi_any (h W tk)).weak fun s H R ⟨r, env, ah, q, x, he, hh, hw, hq, hx⟩ => by
    refine ⟨r, env, ah, _, x, he, hh, hw, fun d ah1 h1 r1 H1 v k1 hh1 p1 => ?_, hx⟩
    dsimp only at h1
    unfold fIter at h1
    split at h1
    · obtain ⟨a, xs, rfl, sq, rv⟩ := p1
      exact .inr (.inl ⟨a, xs, rfl, sq, hq _ _ h1 r1 H1 _ k1 hh1 (jrep_tup sq rv)⟩)
    · obtain ⟨a, xs, rfl, sq, rv⟩ := p1
      exact .inl ⟨a, xs, rfl, sq.sq, hq _ _ h1 r1 H1 _ k1 hh1 (jrep_frl sq rv)⟩
    · split at h1
      · obtain ⟨a, e1, rfl⟩ := p1
        obtain ⟨vs, f, rv⟩ := hh1.ob _ _ _ e1 (by assumption)
        exact .inl ⟨a, vs, rfl, .of f, hq _ _ h1 r1 H1 _ k1 hh1 (jrep_lst e1)⟩
      · exact h1.elim
    · exact .inr (.inr ⟨_, p1, hq _ _ h1 r1 H1 _ k1 hh1 jrep_str⟩)
    · exact h1.elim
def rangeD (lo : Int) (n : Nat) : List D := (List.range n).map fun i => D.int (lo + (i : Nat))
theorem jrep_range {r : List Addr} {H : Hp} {lo : Int} {n : Nat} : JRep K r H (Itr lo n) ⟨rangeD lo n, fun _ => True⟩ where
  go := fun r1 H1 ah i d k hh _ e => by
    unfold rangeD at e
    simp only [List.getElem?_map, Option.map_eq_some_iff] at e
    obtain ⟨j, e1, rfl⟩ := e
    obtain ⟨hj, e2⟩ := List.getElem?_eq_some_iff.mp e1
    rw [List.getElem_range] at e2
    subst e2
    refine ⟨show i < n by simpa using hj, fun x H' y => ?_⟩
    obtain ⟨rfl, rfl⟩ := y
    exact ⟨Kp.refl, hh, rfl⟩
  stop := fun r1 H1 ah i k hh _ e => by
    show n ≤ i
    unfold rangeD at e
    simpa using e
def wRng1 (w : WA) : WI := fun env ah q x => w env ah (fun ds ah1 => match ds with
  | [.int j] => -(2 ^ 62) ≤ j ∧ j < 2 ^ 62 ∧ q ⟨rangeD 0 j.toNat, fun _ => True⟩ ah1
  | _ => False) x
theorem di_range1 {p : Pos} (hg : Gl X "range") (hm : X.mg "range" = none) (h : DA X [a] ws) (hs : starEach [a] X.env = [(false, eval a X.env)] := by rfl) : DI X tg (.Call (.Name "range" p) [a] [] pos) (wRng1 ws) := fun W tk =>
  (pi_range1 hg hm (h W tk) hs).weak fun s H R ⟨r, env, ah, q, x, he, hh, hw, hq, hx⟩ => by
    refine ⟨r, env, ah, _, x, he, hh, hw, fun ds ah1 h1 r1 H1 vs k1 hh1 p1 => ?_, hx⟩
    dsimp only at h1
    split at h1
    · obtain ⟨v, vr, rfl, q1, rfl⟩ := p1
      cases q1
      exact ⟨_, rfl, h1.1, h1.2.1, hq _ _ h1.2.2 r1 H1 _ k1 hh1 jrep_range⟩
    · exact h1.elim
def wRng2 (w : WA) : WI := fun env ah q x => w env ah (fun ds ah1 => match ds with
  | [.int i, .int j] => (-(2 ^ 62) ≤ i ∧ i < 2 ^ 62 ∧ -(2 ^ 62) ≤ j ∧ j < 2 ^ 62) ∧ q ⟨rangeD i (j - i).toNat, fun _ => True⟩ ah1
  | _ => False) x
theorem di_range2 {p : Pos} (hg : Gl X "range") (hm : X.mg "range" = none) (h : DA X [a, b] ws) (hs : starEach [a, b] X.env = [(false, eval a X.env), (false, eval b X.env)] := by rfl) (hs2 : starEach [b] X.env = [(false, eval b X.env)] := by rfl) : DI X tg (.Call (.Name "range" p) [a, b] [] pos) (wRng2 ws) := fun W tk =>
  (pi_range2 hg hm (h W tk) hs hs2).weak fun s H R ⟨r, env, ah, q, x, he, hh, hw, hq, hx⟩ => by
    refine ⟨r, env, ah, _, x, he, hh, hw, fun ds ah1 h1 r1 H1 vs k1 hh1 p1 => ?_, hx⟩
    dsimp only at h1
    split at h1
    · obtain ⟨v, vr, rfl, q1, v2, vr2, rfl, q2, rfl⟩ := p1
      cases q1
      cases q2
      exact ⟨_, _, rfl, h1.1, hq _ _ h1.2 r1 H1 _ k1 hh1 jrep_range⟩
    · exact h1.elim

/-! ### for -/
def forGo (ok : AH → Prop) (g : WG) (body : WS) (dn : DEnds) (x : QXS) : List D → En → AH → Prop
  | [], env, ah => ok ah ∧ dn.nx env ah
  | d :: l, env, ah => ok ah ∧ g d env ah fun env1 ah1 => body env1 ah1 { dn with nx := forGo ok g body dn x l, ct := forGo ok g body dn x l, bk := dn.nx } x
def wFor (wi : WI) (g : WG) (body : WS) : WS := fun env ah dn x => wi env ah (fun it ah1 => forGo it.ok g body dn x it.items env ah1) (atE x env)
theorem forGo_ok {ok : AH → Prop} {g : WG} {body : WS} {dn : DEnds} {x : QXS} {l : List D} {env : En} {ah : AH} (h : forGo ok g body dn x l env ah) : ok ah := by
  cases l <;> exact h.1
theorem ds_for {iter : Expr} {body : List Stmt} {wi : WI} {g : WG} (hp : PassesOwn (model X.prog X.w) X.A X.env X.xe) (hc : X.calm = true) (hi : DI X tg iter wi) (hg : DG X tg g) (hb : DSs X body u)
    (hs : ∀ x, foldedSetIterable iter X.env x = pure x := by intro _; rfl) : DS X (.For tg iter body [] pos) (wFor wi g u) := fun W tk =>
  (ps_for hp hc (hi W tk) hg (hb W tk) hs).weak fun Dn s H ⟨r, env, ah, dn, x, he, hh, hw, hd, hx⟩ => by
    refine ⟨r, env, ah, _, _, he, hh, hw, fun it ah1 h1 r1 H1 J k1 hh1 jr => ?_, hx.at_ he⟩
    refine ⟨fun i m s2 H2 => ∃ r2 env2 ah2, Kp X.K r1 H1 r2 H2 ∧ ERep X.K r2 H2 env2 s2 ∧ HRep X.K r2 H2 ah2 ∧ i + m = it.items.length ∧ forGo it.ok g u dn x (it.items.drop i) env2 ah2,
      ⟨it.items.length, r1, env, ah1, Kp.refl, he.mono k1, hh1, by omega, by simpa using h1⟩, fun i m s2 H2 hW => ?_⟩
    obtain ⟨r2, env2, ah2, k2, he2, hh2, hm, hf⟩ := hW
    have ok := forGo_ok hf
    by_cases hlt : i < it.items.length
    · have e : it.items[i]? = some it.items[i] := List.getElem?_eq_getElem hlt
      rw [List.drop_eq_getElem_cons hlt] at hf
      obtain ⟨go, yl⟩ := jr.go r2 H2 ah2 i _ k2 hh2 ok e
      refine .inr ⟨go, fun s3 H3 => ∃ r3 env3 ah3, Kp X.K r1 H1 r3 H3 ∧ ERep X.K r3 H3 env3 s3 ∧ HRep X.K r3 H3 ah3 ∧ forGo it.ok g u dn x (it.items.drop (i + 1)) env3 ah3,
        fun s3 H3 ⟨r3, env3, ah3, k3, he3, hh3, h3⟩ => ⟨m - 1, by omega, r3, env3, ah3, k3, he3, hh3, by omega, h3⟩, fun y H3 hy => ?_⟩
      obtain ⟨k3, hh3, p3⟩ := yl y H3 hy
      have k13 := k2.trans k3
      have k03 := k1.trans k13
      refine ⟨r2, env2, ah2, _, _, he2.mono k3, hh3, p3, hf.2, fun env4 ah4 h4 r4 H4 s4 k4 hh4 he4 => ?_⟩
      have k14 := k13.trans k4
      have k04 := k03.trans k4
      refine ⟨r4, env4, ah4, _, x, he4, hh4, h4, ⟨fun env5 ah5 h5 r5 H5 s5 k5 hh5 he5 => ⟨r5, env5, ah5, k14.trans k5, he5, hh5, h5⟩, hd.rt.step k04, hd.nx.step k04,
        fun env5 ah5 h5 r5 H5 s5 k5 hh5 he5 => ⟨r5, env5, ah5, k14.trans k5, he5, hh5, h5⟩⟩, hx.step k04⟩
    · rw [List.drop_eq_nil_of_le (by omega)] at hf
      exact .inl ⟨jr.stop r2 H2 ah2 i k2 hh2 ok (by omega), hd.nx _ _ hf.2 r2 H2 s2 (k1.trans k2) hh2 he2⟩

/-! ### while: an invariant and a number that falls -/
def wWhile (t : WT) (body : WS) : WS := fun env ah dn x => ∃ I : Nat → En → AH → Prop, (∃ m, I m env ah) ∧ ∀ m env ah, I m env ah →
  t env ah (fun b ah1 => if b = true then body env ah1 { dn with nx := fun e a => ∃ m', m' < m ∧ I m' e a, ct := fun e a => ∃ m', m' < m ∧ I m' e a, bk := dn.nx } x else dn.nx env ah1) (atE x env)
theorem ds_while {body : List Stmt} (hp : PassesOwn (model X.prog X.w) X.A X.env X.xe) (hc : DT X c tc) (hb : DSs X body u) : DS X (.While c body [] pos) (wWhile tc u) := fun W tk =>
  (ps_while hp (hc W tk) (hb W tk)).weak fun Dn s H ⟨r, env, ah, dn, x, he, hh, ⟨I, ⟨m0, w0⟩, turn⟩, hd, hx⟩ => by
    refine ⟨fun m s2 H2 => ∃ r2 env2 ah2, Kp X.K r H r2 H2 ∧ ERep X.K r2 H2 env2 s2 ∧ HRep X.K r2 H2 ah2 ∧ I m env2 ah2, ⟨m0, r, env, ah, Kp.refl, he, hh, w0⟩, fun m s2 H2 hW => ?_⟩
    obtain ⟨r2, env2, ah2, k2, he2, hh2, h2⟩ := hW
    refine ⟨r2, env2, ah2, _, _, he2, hh2, turn m env2 ah2 h2, fun b ah3 h3 r3 H3 k3 hh3 => ?_, (hx.step k2).at_ he2⟩
    have k23 := k2.trans k3
    cases b with
    | true =>
      refine ⟨fun s4 H4 => ∃ m', m' < m ∧ ∃ r4 env4 ah4, Kp X.K r H r4 H4 ∧ ERep X.K r4 H4 env4 s4 ∧ HRep X.K r4 H4 ah4 ∧ I m' env4 ah4, fun s4 H4 h => h, ?_⟩
      refine ⟨r3, env2, ah3, _, x, he2.mono k3, hh3, h3, ⟨fun env5 ah5 h5 r5 H5 s5 k5 hh5 he5 => ?_, hd.rt.step k23, hd.nx.step k23, fun env5 ah5 h5 r5 H5 s5 k5 hh5 he5 => ?_⟩, hx.step k23⟩
      · obtain ⟨m', hm, h5⟩ := h5
        exact ⟨m', hm, r5, env5, ah5, k23.trans k5, he5, hh5, h5⟩
      · obtain ⟨m', hm, h5⟩ := h5
        exact ⟨m', hm, r5, env5, ah5, k23.trans k5, he5, hh5, h5⟩
    | false => exact hd.nx _ _ h3 r3 H3 s2 k23 hh3 (he2.mono k3)

/-! ### list comprehensions -/
def lcGo (ok : AH → Prop) (g : WG) (t : WT) (el : WE) (env : En) (q : QE) : List D → List D → AH → Prop
  | [], acc, ah => ok ah ∧ newL acc ah q
  | d :: l, acc, ah => ok ah ∧ acc.length < sizeLine ∧ g d env ah fun env1 ah1 => t env1 ah1 (fun b ah2 =>
      if b = true then el env1 ah2 (fun y ah3 => lcGo ok g t el env q l (acc ++ [y]) ah3) (fun _ _ => False) else lcGo ok g t el env q l acc ah2) (fun _ _ => False)
/-- vs: the slots of the comprehension's own names -/
def wLc (vs : List Nat) (wi : WI) (g : WG) (t : WT) (el : WE) : WE := fun env ah q x => wi env ah (fun it ah1 => lcGo it.ok g t el (nos env vs) q it.items [] ah1) x
theorem takesF : Takes X (fun _ _ _ _ => False) := fun _ _ h => by
  obtain ⟨_, _, _, _, _, _, _, _, _, _, _, _, _, _, _, _, z⟩ := h
  exact z.elim
/-- a target of a comprehension: it stores to the slots vs alone -/
def TGD (K : PySem.W.Frag) (vs : List Nat) (t : TG) (g : WG) : Prop := ∀ r H env ah d v s Q q, ERep K r H env s → HRep K r H ah → Rep K r H d v → g d env ah q → (∀ env1 s1, L2.wipe s1 vs = L2.wipe s vs → ERep K r H env1 s1 → q env1 ah → Q s1 H) → t v s H Q
def TGDs (K : PySem.W.Frag) (vs : List Nat) (t : TGs) (g : WGs) : Prop := ∀ r H env ah d v s Q q, ERep K r H env s → HRep K r H ah → Reps K r H d v → g d env ah q → (∀ env1 s1, L2.wipe s1 vs = L2.wipe s vs → ERep K r H env1 s1 → q env1 ah → Q s1 H) → t v s H Q
theorem wipe_set {i : Nat} {x : Option V} : ∀ {vs : List Nat} {s : L2.St}, i ∈ vs → L2.wipe (s.set i x) vs = L2.wipe s vs
  | [], _, h => by cases h
  | v :: vs, s, h => by
    unfold L2.wipe
    by_cases hv : i ∈ vs
    · rw [wipe_set hv]
    · have e : i = v := by
        rcases List.mem_cons.mp h with h | h
        · exact h
        · exact absurd h hv
      subst e
      have : ∀ (l : List Nat) (s : L2.St), i ∉ l → L2.wipe (s.set i x) l = (L2.wipe s l).set i x := by
        intro l
        induction l with
        | nil => intro s _; rfl
        | cons w l ih =>
          intro s hn
          unfold L2.wipe
          rw [ih s (fun z => hn (List.mem_cons_of_mem _ z)), List.set_comm]
          exact fun z => hn (by rw [z]; exact List.mem_cons_self)
      rw [this vs s hv, List.set_set]
theorem tgd_name {i : Nat} {vs : List Nat} (h : i ∈ vs := by decide) : TGD K vs (gName i) (gN i) := fun r H env ah d v s Q q he hh p hg hq => hq _ _ (wipe_set h) (he.set i p) hg
theorem tgds_nil {vs : List Nat} : TGDs K vs gNil gsN := fun r H env ah d v s Q q he hh p hg hq => by
  cases d with
  | nil => exact ⟨p, hq _ _ rfl he hg⟩
  | cons _ _ => exact hg.elim
theorem tgds_cons {vs : List Nat} {t : TG} {g : WG} {ts : TGs} {gs : WGs} (h1 : TGD K vs t g) (h2 : TGDs K vs ts gs) : TGDs K vs (gCons t ts) (gsC g gs) := fun r H env ah d v s Q q he hh p hg hq => by
  cases d with
  | nil => exact hg.elim
  | cons d l =>
    obtain ⟨v, vr, e, p1, p2⟩ := p
    exact ⟨v, vr, e, h1 r H env ah d v s _ _ he hh p1 hg fun env1 s1 z he1 g1 => h2 r H env1 ah l vr s1 Q q he1 hh p2 g1 fun env2 s2 z2 he2 q2 => hq _ _ (z2.trans z) he2 q2⟩
theorem tgd_tup {n : Nat} {vs : List Nat} {ts : TGs} {gs : WGs} (h : TGDs K vs ts gs) : TGD K vs (gTup K n ts) (gT n gs) := fun r H env ah d v s Q q he hh p hg hq => by
  cases d with
  | tup l =>
    obtain ⟨a, xs, rfl, sq, rv⟩ := p
    exact ⟨a, xs, rfl, sq, by rw [rv.length]; exact hg.1, h r H env ah l xs s Q q he hh rv hg.2 hq⟩
  | _ => exact hg.elim
/-- a list outside of the heap of data is written -/
theorem out_write {r : List Addr} {H : Hp} {ah : AH} {p : Addr} {vs us : List V} (hh : HRep K r H ah) (hp : p ∉ r) (e : H p = some (.lst vs)) :
    (∀ a xs, SqT K H a xs → SqT K (upd H p (.lst us)) a xs) ∧ (∀ a xs, SqF K H a xs → SqF K (upd H p (.lst us)) a xs) ∧ HRep K r (upd H p (.lst us)) ah := by
  have h2 : ∀ a xs, SqT K H a xs → SqT K (upd H p (.lst us)) a xs := fun a xs h => by
    rcases h with h | h
    · refine .inl ?_
      rcases h with h | ⟨o, h⟩
      · exact .inl (by rw [upd_ne (fun z => by rw [z, e] at h; cases h)]; exact h)
      · exact .inr ⟨o, by rw [upd_ne (fun z => by rw [z, e] at h; cases h)]; exact h⟩
    · exact .inr h
  have h3 : ∀ a xs, SqF K H a xs → SqF K (upd H p (.lst us)) a xs := fun a xs h => by
    rcases h with ⟨o, h⟩ | h
    · exact .inl ⟨o, by rw [upd_ne (fun z => by rw [z, e] at h; cases h)]; exact h⟩
    · exact .inr h
  refine ⟨h2, h3, hh.len, hh.nd, fun n a o e1 e2 => ?_⟩
  have na : a ≠ p := fun z => hp (z ▸ List.mem_of_getElem? e1)
  have ea : upd H p (.lst us) a = H a := upd_ne na
  have q := hh.ob n a o e1 e2
  cases o with
  | lst xs => obtain ⟨w, q1, q2⟩ := q; exact ⟨w, ea.trans q1, q2.mono3 (fun _ _ h => h) h2 h3⟩
  | dct xs => obtain ⟨w, q1, q2⟩ := q; exact ⟨w, ea.trans q1, q2.mono3 (fun _ _ h => h) h2 h3⟩
  | dcl xs => obtain ⟨w, o, q1, q2⟩ := q; exact ⟨w, o, ea.trans q1, q2.mono3 (fun _ _ h => h) h2 h3⟩
  | ins C xs =>
    obtain ⟨dx, w, q1, q2, q3, q4⟩ := q
    exact ⟨dx, w, ea.trans q1, q2, (upd_ne (fun z => by rw [z, e] at q3; cases q3)).trans q3, q4.mono3 (fun _ _ h => h) h2 h3⟩
  | exc C xs =>
    obtain ⟨dx, w, q1, q2, q3, q4⟩ := q
    exact ⟨dx, w, ea.trans q1, fun d hd => ⟨(q2 d hd).1, (upd_ne (fun z => by have := (q2 d hd).2; rw [z, e] at this; cases this)).trans (q2 d hd).2⟩, q3, q4.mono3 (fun _ _ h => h) h2 h3⟩
  | raw u => exact ⟨ea.trans q.1, q.2⟩
theorem LE.lc {wi : WI} {t : TG} {g : WG} {tt : WT} {vs : List Nat} {W : WX} {s : L2.St} {H : Hp} {Q : VK} (tg : TGD K vs t g) (h : LE K (wLc vs wi g tt we) W s H Q) :
    tLc (LI K wi W) t (LT K tt fun _ _ _ _ => False) (LE K we fun _ _ _ _ => False) vs s H Q := by
  obtain ⟨r, env, ah, q, x, he, hh, hw, hq, hx⟩ := h
  refine ⟨r, env, ah, _, x, he, hh, hw, fun it ah1 h1 r1 H1 J k1 hh1 jr => ?_, hx⟩
  intro p hp
  have hwp := (he.mono k1).wipe vs
  refine ⟨fun i m H2 => ∃ r2 ah2 acc us, Kp K r1 H1 r2 H2 ∧ HRep K r2 H2 ah2 ∧ p ∉ r2 ∧ H2 p = some (.lst us) ∧ Reps K r2 H2 acc us ∧ i + m = it.items.length ∧ lcGo it.ok g tt we (nos env vs) q (it.items.drop i) acc ah2,
    ⟨it.items.length, r1, ah1, [], [], Kp.new_ hp, hh1.new_ hp, hh1.fresh hp, upd_same, rfl, by omega, by simpa using h1⟩, fun i m H2 hW => ?_⟩
  obtain ⟨r2, ah2, acc, us, k2, hh2, np2, ep2, ra2, hm, hf⟩ := hW
  by_cases hlt : i < it.items.length
  · have e : it.items[i]? = some it.items[i] := List.getElem?_eq_getElem hlt
    rw [List.drop_eq_getElem_cons hlt] at hf
    obtain ⟨ok, hsz, hf⟩ := hf
    obtain ⟨go, yl⟩ := jr.go r2 H2 ah2 i _ k2 hh2 ok e
    refine .inr ⟨go, fun H3 => ∃ r3 ah3 acc3 us3, Kp K r1 H1 r3 H3 ∧ HRep K r3 H3 ah3 ∧ p ∉ r3 ∧ H3 p = some (.lst us3) ∧ Reps K r3 H3 acc3 us3 ∧ lcGo it.ok g tt we (nos env vs) q (it.items.drop (i + 1)) acc3 ah3,
      fun H3 ⟨r3, ah3, acc3, us3, k3, hh3, np3, ep3, ra3, h3⟩ => ⟨m - 1, by omega, r3, ah3, acc3, us3, k3, hh3, np3, ep3, ra3, by omega, h3⟩, fun y H3 hy => ?_⟩
    obtain ⟨k3, hh3, p3⟩ := yl y H3 hy
    have k13 := k2.trans k3
    refine tg r2 H3 (nos env vs) ah2 _ y _ _ _ ((hwp.mono k2).mono k3) hh3 p3 hf fun env4 s4 z4 he4 h4 => ?_
    have ep3 : H3 p = some (.lst us) := k3.out p _ np2 ep2 (by simp)
    refine ⟨?_, r2, env4, ah2, _, _, he4, hh3, h4, fun b ah5 h5 r5 H5 k5 hh5 => ?_, fun _ _ _ z => z.elim⟩
    · rw [z4]
      have : ∀ (l : List Nat) (s : L2.St), (∀ j ∈ l, j ∈ vs) → L2.wipe (L2.wipe s vs) l = L2.wipe s vs := by
        intro l
        induction l with
        | nil => intro s _; rfl
        | cons v l ih =>
          intro s hl
          show (L2.wipe (L2.wipe s vs) l).set v none = _
          rw [ih s fun j hj => hl j (List.mem_cons_of_mem _ hj)]
          have hv := hl v List.mem_cons_self
          apply List.ext_getElem?
          intro j
          by_cases hj : v = j
          · subst hj
            have hw : ∀ (l : List Nat) (s : L2.St), v ∈ l → (L2.wipe s l)[v]? = if v < s.length then some none else none := by
              intro l
              induction l with
              | nil => intro s hm; cases hm
              | cons w l ih2 =>
                intro s hm
                show ((L2.wipe s l).set w none)[v]? = _
                by_cases hwv : w = v
                · subst hwv
                  rw [List.getElem?_set]
                  simp [L2.wipe_length]
                · rw [List.getElem?_set_ne hwv]
                  exact ih2 s ((List.mem_cons.mp hm).resolve_left (fun z => hwv z.symm))
            rw [List.getElem?_set]
            simp [L2.wipe_length, hw vs s hv]
          · rw [List.getElem?_set_ne hj]
      exact this vs s fun j hj => hj
    · have np5 : p ∉ r5 := fun z => by
        rcases k5.new p z with z | z
        · exact np2 z
        · rw [ep3] at z; cases z
      have ep5 : H5 p = some (.lst us) := k5.out p _ np2 ep3 (by simp)
      have k15 := k13.trans k5
      cases b with
      | false => exact ⟨r5, ah5, acc, us, k15, hh5, np5, ep5, (ra2.mono k3).mono k5, h5⟩
      | true =>
        refine ⟨r5, env4, ah5, _, _, he4.mono k5, hh5, h5, fun d ah6 h6 r6 H6 v k6 hh6 p6 => ?_, fun _ _ _ z => z.elim⟩
        have np6 : p ∉ r6 := fun z => by
          rcases k6.new p z with z | z
          · exact np5 z
          · rw [ep5] at z; cases z
        have ep6 : H6 p = some (.lst us) := k6.out p _ np5 ep5 (by simp)
        have k16 := k15.trans k6
        obtain ⟨o2, o3, hh7⟩ := out_write (us := us ++ [v]) hh6 np6 ep6
        have ra6 := ((ra2.mono k3).mono k5).mono k6
        refine ⟨us, ep6, by rw [ra6.length]; exact hsz, r6, ah6, acc ++ [d], us ++ [v], ?_, hh7, np6, upd_same, (ra6.append (Reps.one p6)).mono3 (fun _ _ h => h) o2 o3, h6⟩
        refine ⟨k16.pre, fun a xs h => o2 a xs (k16.tup a xs h), fun a xs h => o3 a xs (k16.frl a xs h), fun b o nb eb tb => ?_, k16.new, fun b ps eb => ?_⟩
        · rw [upd_ne (ne_of_none eb hp)]
          exact k16.out b o nb eb tb
        · rw [upd_ne (ne_of_none eb hp)]
          exact k16.tb b ps eb
  · rw [List.drop_eq_nil_of_le (by omega)] at hf
    obtain ⟨ok, hf⟩ := hf
    refine .inl ⟨jr.stop r2 H2 ah2 i k2 hh2 ok (by omega), ?_⟩
    have hpre : ∀ (n : Nat) (a : Addr), r2[n]? = some a → (r2 ++ [p])[n]? = some a := fun n a h => by
      rw [List.getElem?_append_left (List.getElem?_eq_some_iff.mp h).1]; exact h
    have k3 : Kp K r1 H1 (r2 ++ [p]) H2 := ⟨fun n a h => hpre n a (k2.pre n a h), k2.tup, k2.frl, k2.out, fun b hb => by
      rcases List.mem_append.mp hb with z | z
      · exact k2.new b z
      · rw [List.mem_singleton.mp z]; exact .inr hp, k2.tb⟩
    refine hq _ _ hf (r2 ++ [p]) H2 (.ref p) (k1.trans k3) ?_ ⟨p, by rw [← hh2.len]; simp, rfl⟩
    have ra3 : Reps K (r2 ++ [p]) H2 acc us := ra2.mono3 hpre (fun _ _ h => h) (fun _ _ h => h)
    refine ⟨by simp [hh2.len], ?_, fun n a o e1 e2 => ?_⟩
    · rw [List.nodup_append]
      exact ⟨hh2.nd, by simp, fun x hx y hy z => np2 (by rw [← List.mem_singleton.mp hy, ← z]; exact hx)⟩
    · by_cases hn : n < r2.length
      · rw [List.getElem?_append_left hn] at e1
        rw [List.getElem?_append_left (by rw [← hh2.len]; exact hn)] at e2
        have qo := hh2.ob n a o e1 e2
        have nn : ∀ d u, d ∉ r2 → H2 d = some u → (∀ w, u ≠ .lst w) → d ∉ r2 ++ [p] := fun d u h1 h2 h3 z => by
          rcases List.mem_append.mp z with z | z
          · exact h1 z
          · rw [List.mem_singleton.mp z, ep2] at h2; exact h3 us (Option.some.inj h2).symm
        cases o with
        | lst xs => obtain ⟨w, q1, q2⟩ := qo; exact ⟨w, q1, q2.mono3 hpre (fun _ _ h => h) (fun _ _ h => h)⟩
        | dct xs => obtain ⟨w, q1, q2⟩ := qo; exact ⟨w, q1, q2.mono3 hpre (fun _ _ h => h) (fun _ _ h => h)⟩
        | dcl xs => obtain ⟨w, o, q1, q2⟩ := qo; exact ⟨w, o, q1, q2.mono3 hpre (fun _ _ h => h) (fun _ _ h => h)⟩
        | ins C xs => obtain ⟨dx, w, q1, q2, q3, q4⟩ := qo; exact ⟨dx, w, q1, nn _ _ q2 q3 (by simp), q3, q4.mono3 hpre (fun _ _ h => h) (fun _ _ h => h)⟩
        | exc C xs => obtain ⟨dx, w, q1, q2, q3, q4⟩ := qo; exact ⟨dx, w, q1, fun d hd => ⟨nn _ _ (q2 d hd).1 (q2 d hd).2 (by simp), (q2 d hd).2⟩, q3, q4.mono3 hpre (fun _ _ h => h) (fun _ _ h => h)⟩
        | raw u => exact qo
      · rw [List.getElem?_append_right (by omega)] at e1
        rw [List.getElem?_append_right (by rw [← hh2.len]; omega)] at e2
        rw [hh2.len] at e1
        cases m' : n - ah2.length with
        | zero => rw [m'] at e1 e2; cases e1; cases e2; exact ⟨us, ep2, ra3⟩
        | succ k => rw [m'] at e1; simp at e1
variable {elt iter : Expr} {ifs : List Expr} {scope : Scope} {own : List (Str × Nat)} {wi : WI} {t : TG} {g : WG} {tt : WT}
def DTs (X : Cx) (ifs : List Expr) (t : WT) : Prop := PTs X ifs (LT X.K t fun _ _ _ _ => False)
def wYes : WT := fun _ ah q _ => q true ah
theorem dts_nil : DTs X [] wYes := ⟨fun pins s σ H Q I ⟨r, env, ah, q, x, he, hh, hw, hq, hx⟩ => pts_nil.run pins s σ H Q I (hq _ _ hw r H Kp.refl hh)⟩
theorem dts_one (h : DT X c tc) : DTs X [c] tc := pts_one (h _ takesF)
theorem de_lc (hc : X.calm = true) (hN : X.N.Nodup) (hi : DI X tg iter wi) (ok : BlkOk X.N X.env.scope scope own)
    (hg : ∀ (s : Shared) (H : Hp) (C : Addr) (cl : List (Str × Addr)) (fp : List Addr), PG (X.blk s H scope (compEnvC scope cl C X.env) fp) tg t) (hd : TGD X.K (own.map (·.2)) t g)
    (ht : ∀ (s : Shared) (H : Hp) (C : Addr) (cl : List (Str × Addr)) (fp : List Addr), DTs (X.blk s H scope (compEnvC scope cl C X.env) fp) ifs tt)
    (he : ∀ (s : Shared) (H : Hp) (C : Addr) (cl : List (Str × Addr)) (fp : List Addr), DE (X.blk s H scope (compEnvC scope cl C X.env) fp) elt we) (hs : ∀ x, foldedSetIterable iter X.env x = pure x := by intro _; rfl) :
    DE X (.ListComp elt [⟨tg, iter, ifs, 0⟩] scope pos) (wLc (own.map (·.2)) wi g tt we) := fun W tk =>
  (pe_lc (tt := LT X.K tt fun _ _ _ _ => False) (te := LE X.K we fun _ _ _ _ => False) hc hN (hi W tk) ok hg (fun s H C cl fp => ht s H C cl fp) (fun s H C cl fp => he s H C cl fp _ takesF) hs).weak fun s H Q h => LE.lc hd h
theorem ds_setLc {i : Nat} {y : Str} {py spos : Pos} (hc : X.calm = true) (hN : X.N.Nodup) (hy : X.N[i]? = some y) (hyl : X.env.scope.names.lookup y = some .local)
    (hsw : swapsWith (.ListComp elt [⟨tg, iter, ifs, 0⟩] scope pos) (some (.Name y py)) spos.line X.env = pure true) (hi : DI X tg iter wi) (ok : BlkOk X.N X.env.scope scope own)
    (hg : ∀ (s : Shared) (H : Hp) (C : Addr) (cl : List (Str × Addr)) (fp : List Addr), PG (X.blk s H scope (compEnvC scope cl C X.env) fp) tg t) (hd : TGD X.K (own.map (·.2)) t g)
    (ht : ∀ (s : Shared) (H : Hp) (C : Addr) (cl : List (Str × Addr)) (fp : List Addr), DTs (X.blk s H scope (compEnvC scope cl C X.env) fp) ifs tt)
    (he : ∀ (s : Shared) (H : Hp) (C : Addr) (cl : List (Str × Addr)) (fp : List Addr), DE (X.blk s H scope (compEnvC scope cl C X.env) fp) elt we) (hs : ∀ x, foldedSetIterable iter X.env x = pure x := by intro _; rfl) :
    DS X (.Assign [.Name y py] (.ListComp elt [⟨tg, iter, ifs, 0⟩] scope pos) spos) (wAsg (wLc (own.map (·.2)) wi g tt we) (gN i)) := fun W tk =>
  (ps_setLc (i := i) (tt := LT X.K tt fun _ _ _ _ => False) (te := LE X.K we fun _ _ _ _ => False) hc hN hy hyl hsw (hi W tk) ok hg (fun s H C cl fp => ht s H C cl fp) (fun s H C cl fp => he s H C cl fp _ takesF) hs).weak fun Dn s H ⟨r, env, ah, dn, x, he, hh, hw, hd', hx⟩ =>
    LE.lc hd ⟨r, env, ah, _, _, he, hh, hw, fun d ah1 h1 r1 H1 v k1 hh1 p1 => hd'.nx _ _ h1 r1 H1 _ k1 hh1 ((he.mono k1).set i p1), hx.at_ he⟩
end
end Z
namespace Z
open PySem PySem.Spec PyProof.Rows L2
section
variable {X : Cx} {K : PySem.W.Frag} {pos : Pos} {a b c e tg : Expr} {es : List Expr} {wa wb wc we : WE} {ta tb tc : WT} {ws : WA} {s1 : Stmt} {ss : List Stmt} {u v w : WS}

/-! ### built-in functions, by values -/
abbrev FA := List D → AH → QE → Prop
structure Cal (X : Cx) (f : Value) (g : FA) : Prop where
  ex : ∃ r, CallR X f r ∧ ∀ rr H ah ds vs q Q, HRep X.K rr H ah → Reps X.K rr H ds vs → g ds ah q → Cn X.K rr H q Q → r vs H Q
def wCal (g : FA) (w : WA) : WE := fun env ah q x => w env ah (fun ds ah1 => g ds ah1 q) x
theorem LE.cal {g : FA} {r : List V → Hp → VK → Prop} {W : WX} {s : L2.St} {H : Hp} {Q : VK} (hr : ∀ rr H ah ds vs q Q, HRep K rr H ah → Reps K rr H ds vs → g ds ah q → Cn K rr H q Q → r vs H Q) (h : LE K (wCal g ws) W s H Q) : tCB r (LA K ws W) s H Q := by
  obtain ⟨rr, env, ah, q, x, he, hh, hw, hq, hx⟩ := h
  exact ⟨rr, env, ah, _, x, he, hh, hw, fun ds ah1 h1 r1 H1 vs k1 hh1 p1 => hr r1 H1 ah1 ds vs q Q hh1 p1 h1 (hq.step k1), hx⟩
theorem de_callB {x : Str} {id : String} {p : Pos} {g : FA} (o : Cal X (.builtin id) g) (hg : Gl X x) (hm : X.mg x = none) (hv : bootBuiltins x = some (.builtin id)) (ha : DA X (e :: es) ws) (hn : x ≠ "__name__" := by decide) (hdb : (x == ("__debug__" : Str)) = false := by decide)
    (h1 : starEach (e :: es) X.env = (false, eval e X.env) :: starEach es X.env := by rfl) (h2 : (backTo pos (starEach es X.env)).any (·.1) = false := by rfl) : DE X (.Call (.Name x p) (e :: es) [] pos) (wCal g ws) := fun W tk => by
  obtain ⟨r, q1, q2⟩ := o.ex
  exact (pe_callB q1 hg hm hv (ha W tk) hn hdb h1 h2).weak fun s H Q h => LE.cal q2 h
theorem de_callTy {x : Str} {id : String} {p : Pos} {g : FA} (o : Cal X (.type id) g) (hg : Gl X x) (hm : X.mg x = none) (hv : bootBuiltins x = some (.type id)) (ha : DA X (e :: es) ws) (hn : x ≠ "__name__" := by decide) (hdb : (x == ("__debug__" : Str)) = false := by decide)
    (h1 : starEach (e :: es) X.env = (false, eval e X.env) :: starEach es X.env := by rfl) (h2 : (backTo pos (starEach es X.env)).any (·.1) = false := by rfl) : DE X (.Call (.Name x p) (e :: es) [] pos) (wCal g ws) := fun W tk => by
  obtain ⟨r, q1, q2⟩ := o.ex
  exact (pe_callTy q1 hg hm hv (ha W tk) hn hdb h1 h2).weak fun s H Q h => LE.cal q2 h
theorem Cal.or {f : Value} {g1 g2 g : FA} (o : Cal X f g1) (o2 : Cal X f g2) (i : ∀ ds ah q, g ds ah q → g1 ds ah q ∨ g2 ds ah q) : Cal X f g := by
  obtain ⟨r2, h1, h2⟩ := o.ex
  obtain ⟨r3, h3, h4⟩ := o2.ex
  refine ⟨_, h1.or h3, fun rr H ah ds vs q Q hh p w hq => ?_⟩
  rcases i _ _ _ w with w | w
  · exact .inl (h2 rr H ah ds vs q Q hh p w hq)
  · exact .inr (h4 rr H ah ds vs q Q hh p w hq)
theorem Cal.imp {f : Value} {g1 g : FA} (o : Cal X f g1) (i : ∀ ds ah q, g ds ah q → g1 ds ah q) : Cal X f g := by
  obtain ⟨r2, h1, h2⟩ := o.ex
  exact ⟨_, h1, fun rr H ah ds vs q Q hh p w hq => h2 rr H ah ds vs q Q hh p (i _ _ _ w) hq⟩
theorem Reps.one_of {r : List Addr} {H : Hp} {d : D} {vs : List V} (h : Reps K r H [d] vs) : ∃ v, vs = [v] ∧ Rep K r H d v := by
  obtain ⟨v, vr, rfl, p, rfl⟩ := h
  exact ⟨v, rfl, p⟩
theorem Reps.two_of {r : List Addr} {H : Hp} {d d' : D} {vs : List V} (h : Reps K r H [d, d'] vs) : ∃ v v', vs = [v, v'] ∧ Rep K r H d v ∧ Rep K r H d' v' := by
  obtain ⟨v, vr, rfl, p, v', vr', rfl, p', rfl⟩ := h
  exact ⟨v, v', rfl, p, p'⟩
def gLen : FA := fun ds ah q => match ds with
  | [.str z] => z.length ≤ sizeLine ∧ q (.int z.length) ah
  | [.tup l] => q (.int l.length) ah
  | [.frl l] => q (.int l.length) ah
  | [.ref n] => (match ah[n]? with
    | some (.lst l) => q (.int l.length) ah
    | some (.dct l) => q (.int l.length) ah
    | _ => False)
  | _ => False
theorem cal_len : Cal X (.builtin "len") gLen := by
  refine ⟨_, call_len.or call_lenD, fun rr H ah ds vs q Q hh p w hq => ?_⟩
  unfold gLen at w
  split at w
  · obtain ⟨v, rfl, p1⟩ := p.one_of
    cases p1
    exact .inl ⟨_, _, rfl, ⟨w.1, rfl⟩, hq.here w.2 hh rfl⟩
  · obtain ⟨v, rfl, a, xs, rfl, sq, rv⟩ := p.one_of
    exact .inl ⟨_, xs.length, rfl, .inr ⟨xs, sq, rfl⟩, by rw [rv.length]; exact hq.here w hh rfl⟩
  · obtain ⟨v, rfl, a, xs, rfl, sq, rv⟩ := p.one_of
    exact .inl ⟨_, xs.length, rfl, .inl ⟨xs, sq.sq, rfl⟩, by rw [rv.length]; exact hq.here w hh rfl⟩
  · obtain ⟨v, rfl, a, e1, rfl⟩ := p.one_of
    split at w
    · obtain ⟨xs, f, rv⟩ := hh.ob _ _ _ e1 (by assumption)
      exact .inl ⟨_, xs.length, rfl, .inl ⟨xs, .of f, rfl⟩, by rw [rv.length]; exact hq.here w hh rfl⟩
    · obtain ⟨xs, f, rv⟩ := hh.ob _ _ _ e1 (by assumption)
      exact .inr ⟨a, xs, rfl, f, by rw [rv.length]; exact hq.here w hh rfl⟩
    · exact w.elim
  · exact w.elim
def gMax2 : FA := fun ds ah q => match ds with
  | [.int i, .int j] => q (.int (if j > i then j else i)) ah
  | _ => False
theorem cal_max2 (hc : X.calm = true) : Cal X (.builtin "max") gMax2 := by
  refine ⟨_, call_max2 hc, fun rr H ah ds vs q Q hh p w hq => ?_⟩
  unfold gMax2 at w
  split at w
  · obtain ⟨v, v', rfl, p1, p2⟩ := p.two_of
    cases p1; cases p2
    exact ⟨_, _, rfl, hq.here w hh rfl⟩
  · exact w.elim
def gMin2 : FA := fun ds ah q => match ds with
  | [.int i, .int j] => q (.int (if j < i then j else i)) ah
  | _ => False
theorem cal_min2 (hc : X.calm = true) : Cal X (.builtin "min") gMin2 := by
  refine ⟨_, call_min2 hc, fun rr H ah ds vs q Q hh p w hq => ?_⟩
  unfold gMin2 at w
  split at w
  · obtain ⟨v, v', rfl, p1, p2⟩ := p.two_of
    cases p1; cases p2
    exact ⟨_, _, rfl, hq.here w hh rfl⟩
  · exact w.elim
def gInt : FA := fun ds ah q => match ds with
  | [.int i] => q (.int i) ah
  | [.bl b] => q (.int (if b then 1 else 0)) ah
  | _ => False
theorem cal_int : Cal X (.type "int") gInt := by
  refine ⟨_, call_int1, fun rr H ah ds vs q Q hh p w hq => ?_⟩
  unfold gInt at w
  split at w
  · obtain ⟨v, rfl, p1⟩ := p.one_of
    cases p1
    exact .inl ⟨_, rfl, hq.here w hh rfl⟩
  · obtain ⟨v, rfl, p1⟩ := p.one_of
    cases p1
    exact .inr ⟨_, rfl, hq.here w hh rfl⟩
  · exact w.elim
def gAll : FA := fun ds ah q => match ds with
  | [.ref n] => (match ah[n]? with
    | some (.lst l) => ∃ bs : List Bool, l = bs.map D.bl ∧ q (.bl (bs.all id)) ah
    | _ => False)
  | _ => False
theorem cal_all (hc : X.calm = true) : Cal X (.builtin "all") gAll := by
  refine ⟨_, cr_all hc, fun rr H ah ds vs q Q hh p w hq => ?_⟩
  unfold gAll at w
  split at w
  · obtain ⟨v, rfl, a, e1, rfl⟩ := p.one_of
    split at w
    · obtain ⟨bs, rfl, w⟩ := w
      obtain ⟨xs, f, rv⟩ := hh.ob _ _ _ e1 (by assumption)
      rw [rv.bls_of] at f
      exact ⟨a, bs, rfl, .of f, hq.here w hh rfl⟩
    · exact w.elim
  · exact w.elim
/-- the name of a thing's type -/
def tyD (ah : AH) : D → Option String
  | .non => some "NoneType"
  | .bl _ => some "bool"
  | .int _ => some "int"
  | .str _ => some "str"
  | .tup _ => some "tuple"
  | .frl _ => some "list"
  | .ref n => (match ah[n]? with
    | some (.lst _) => some "list"
    | some (.dct _) => some "dict"
    | _ => none)
  | _ => none
def tyNames : List String := ["NoneType", "bool", "int", "str", "tuple", "list", "dict"]
def isTy (t T : String) : Bool := t == T || (t == "bool" && T == "int")
theorem kitB_all : (tyNames.all fun t => tyNames.all fun T => kitB t T == some (isTy t T)) = true := by decide +kernel
theorem kitB_of {t T : String} (h1 : t ∈ tyNames) (h2 : T ∈ tyNames) : kitB t T = some (isTy t T) := by
  have := List.all_eq_true.mp (List.all_eq_true.mp kitB_all t h1) T h2
  exact eq_of_beq this
theorem tyD_mem {ah : AH} {d : D} {t : String} (h : tyD ah d = some t) : t ∈ tyNames := by
  unfold tyD at h
  split at h <;> first | (cases h; decide) | skip
  · split at h <;> first | (cases h; decide) | cases h
  · cases h
theorem tyD_ok {r : List Addr} {H : Hp} {ah : AH} {d : D} {v : V} {t : String} (hh : HRep K r H ah) (p : Rep K r H d v) (h : tyD ah d = some t) : TyX K H v (.type t) := by
  unfold tyD at h
  split at h
  · cases h; cases p; exact .base .non
  · cases h; cases p; exact .base (.bl _)
  · cases h; cases p; exact .base (.int _)
  · cases h; cases p; exact .base (.str _)
  · cases h
    obtain ⟨a, xs, rfl, sq, _⟩ := p
    rcases sq with sq | ⟨o, its, n, h1, h2, _⟩
    · rcases sq with sq | ⟨o, sq⟩
      · exact .base (.tup sq)
      · exact .fTuple sq
    · exact .kTuple h1 h2
  · cases h
    obtain ⟨a, xs, rfl, sq, _⟩ := p
    rcases sq with ⟨o, sq⟩ | ⟨o, its, n, h1, h2, _⟩
    · exact .base (.frz sq)
    · exact .kList h1 h2
  · obtain ⟨a, e1, rfl⟩ := p
    split at h
    · cases h
      obtain ⟨xs, f, _⟩ := hh.ob _ _ _ e1 (by assumption)
      exact .base (.lst f)
    · cases h
      obtain ⟨xs, f, _⟩ := hh.ob _ _ _ e1 (by assumption)
      exact .base (.dK f)
    · cases h
  · cases h
def gIsi : FA := fun ds ah q => match ds with
  | [d, .ty T] => T ∈ tyNames ∧ (match tyD ah d with
    | some t => q (.bl (isTy t T)) ah
    | none => False)
  | _ => False
theorem cal_isi : Cal X (.builtin "isinstance") gIsi := by
  refine ⟨_, call_isi, fun rr H ah ds vs q Q hh p w hq => ?_⟩
  unfold gIsi at w
  split at w
  · obtain ⟨hT, w⟩ := w
    obtain ⟨v, v', rfl, p1, p2⟩ := p.two_of
    cases p2
    split at w
    · rename_i t e
      exact ⟨v, _, _, _, _, rfl, .ty _, tyD_ok hh p1 e, kit_ty (kitB_of (tyD_mem e) hT), hq.here w hh rfl⟩
    · exact w.elim
  · exact w.elim
def gList : FA := fun ds ah q => match ds with
  | [.tup l] => newL l ah q
  | [.frl l] => newL l ah q
  | [.ref n] => (match ah[n]? with
    | some (.lst l) => newL l ah q
    | _ => False)
  | _ => False
theorem cal_list : Cal X (.type "list") gList := by
  refine ⟨_, call_list_of, fun rr H ah ds vs q Q hh p w hq => ?_⟩
  unfold gList at w
  split at w
  · obtain ⟨v, rfl, a, xs, rfl, sq, rv⟩ := p.one_of
    exact ⟨a, xs, rfl, .inr sq, fun l hl => newL_ok hh rv w hq hl⟩
  · obtain ⟨v, rfl, a, xs, rfl, sq, rv⟩ := p.one_of
    exact ⟨a, xs, rfl, .inl sq.sq, fun l hl => newL_ok hh rv w hq hl⟩
  · obtain ⟨v, rfl, a, e1, rfl⟩ := p.one_of
    split at w
    · obtain ⟨xs, f, rv⟩ := hh.ob _ _ _ e1 (by assumption)
      exact ⟨a, xs, rfl, .inl (.of f), fun l hl => newL_ok hh rv w hq hl⟩
    · exact w.elim
  · exact w.elim
def gTuple : FA := fun ds ah q => match ds with
  | [.tup l] => q (.tup l) ah
  | [.ref n] => (match ah[n]? with
    | some (.lst l) => q (.tup l) ah
    | _ => False)
  | _ => False
theorem cal_tuple : Cal X (.type "tuple") gTuple := by
  refine ⟨_, call_tuple_of, fun rr H ah ds vs q Q hh p w hq => ?_⟩
  unfold gTuple at w
  split at w
  · obtain ⟨v, rfl, a, xs, rfl, sq, rv⟩ := p.one_of
    exact ⟨a, xs, rfl, .inr ⟨sq, hq.here w hh ⟨a, xs, rfl, sq, rv⟩⟩⟩
  · obtain ⟨v, rfl, a, e1, rfl⟩ := p.one_of
    split at w
    · obtain ⟨xs, f, rv⟩ := hh.ob _ _ _ e1 (by assumption)
      exact ⟨a, xs, rfl, .inl ⟨.of f, fun l hl => newT_ok hh rv w hq hl⟩⟩
    · exact w.elim
  · exact w.elim
def gDivmod : FA := fun ds ah q => match ds with
  | [.int i, .int j] => CDiv i j ∧ q (.tup [.int (i / j), .int (i % j)]) ah
  | _ => False
theorem cal_divmod : Cal X (.builtin "divmod") gDivmod := by
  refine ⟨_, call_divmod, fun rr H ah ds vs q Q hh p w hq => ?_⟩
  unfold gDivmod at w
  split at w
  · obtain ⟨v, v', rfl, p1, p2⟩ := p.two_of
    cases p1; cases p2
    exact ⟨_, _, rfl, w.1, fun p hp => newT_ok hh (xs := [.int _, .int _]) ⟨_, _, rfl, rfl, _, _, rfl, rfl, rfl⟩ w.2 hq hp⟩
  · exact w.elim

/-! ### methods of built-in types, by values -/
abbrev FM := D → List D → AH → QE → Prop
structure Met (X : Cx) (T id : String) (g : FM) : Prop where
  ex : ∃ r, MtR X id r ∧ (∀ rr H ah d v ds q, HRep X.K rr H ah → Rep X.K rr H d v → g d ds ah q → tyV X.K T v H) ∧ ∀ rr H ah d v ds vs q Q, HRep X.K rr H ah → Rep X.K rr H d v → Reps X.K rr H ds vs → g d ds ah q → Cn X.K rr H q Q → r v vs H Q
/-- ok: what must hold of the receiver ahead of the arguments -/
def wMet (ok : D → AH → Prop) (g : FM) (o : WE) (w : WA) : WE := fun env ah q x => o env ah (fun d ah1 => ok d ah1 ∧ w env ah1 (fun ds ah2 => g d ds ah2 q) x) x
structure MetX (X : Cx) (T id : String) (ok : D → AH → Prop) (g : FM) : Prop where
  ex : ∃ r, MtR X id r ∧ (∀ rr H ah d v, HRep X.K rr H ah → Rep X.K rr H d v → ok d ah → tyV X.K T v H) ∧ ∀ rr H ah d v ds vs q Q, HRep X.K rr H ah → Rep X.K rr H d v → Reps X.K rr H ds vs → g d ds ah q → Cn X.K rr H q Q → r v vs H Q
theorem de_met {T id : String} {ok : D → AH → Prop} {g : FM} {name : Str} {apos cpos : Pos} (pa : PlainAttrs T) (slot : Slot T name id) (hty : typeOf (.builtin id) = pure (.type "method_descriptor")) (hm : MetX X T id ok g) (ho : DE X a wa) (ha : DA X (e :: es) ws)
    (hbase : attributeBase a name X.env (eval a X.env) = eval a X.env := by rfl)
    (hfew : ((backTo cpos (starEach (e :: es) X.env)).all (fun x => !x.1) && (backToKw cpos (keywordEach [] X.env)).all (fun x => x.1.isSome)
      && decide ((e :: es).length + ([] : List Keyword).length + (if ([] : List Keyword).isEmpty then 0 else 1) < 30)) = true := by rfl)
    (hline : (apos.endLine == cpos.line) = true := by rfl) (hs : starEach (e :: es) X.env = (false, eval e X.env) :: starEach es X.env := by rfl) (hplain : (backTo cpos (starEach es X.env)).any (·.1) = false := by rfl) :
    DE X (.Call (.Attribute a name apos) (e :: es) [] cpos) (wMet ok g wa ws) := fun W tk => by
  obtain ⟨r, q1, q2, q3⟩ := hm.ex
  refine (pe_bm pa slot hty q1 (ho W tk) (ha W tk) hbase hfew hline hs hplain).weak fun s H Q ⟨rr, env, ah, q, x, he, hh, hw, hq, hx⟩ => ?_
  refine ⟨rr, env, ah, _, x, he, hh, hw, fun d ah1 h1 r1 H1 v k1 hh1 p1 => ⟨q2 r1 H1 ah1 d v hh1 p1 h1.1, ?_⟩, hx⟩
  refine ⟨r1, env, ah1, _, x, he.mono k1, hh1, h1.2, fun ds ah2 h2 r2 H2 vs k2 hh2 p2 => ?_, hx.step k1⟩
  exact q3 r2 H2 ah2 d v ds vs q Q hh2 (p1.mono k2) p2 h2 (hq.step (k1.trans k2))
theorem de_met0 {T id : String} {ok : D → AH → Prop} {g : FM} {name : Str} {apos cpos : Pos} (pa : PlainAttrs T) (slot : Slot T name id) (hty : typeOf (.builtin id) = pure (.type "method_descriptor")) (hm : MetX X T id ok g) (ho : DE X a wa)
    (hbase : attributeBase a name X.env (eval a X.env) = eval a X.env := by rfl) (hline : (apos.endLine == cpos.line) = true := by rfl) : DE X (.Call (.Attribute a name apos) [] [] cpos) (wMet ok g wa wNil) := fun W tk => by
  obtain ⟨r, q1, q2, q3⟩ := hm.ex
  refine (pe_bm0 pa slot hty q1 (ho W tk) hbase hline).weak fun s H Q ⟨rr, env, ah, q, x, he, hh, hw, hq, hx⟩ => ?_
  refine ⟨rr, env, ah, _, x, he, hh, hw, fun d ah1 h1 r1 H1 v k1 hh1 p1 => ⟨q2 r1 H1 ah1 d v hh1 p1 h1.1, ?_⟩, hx⟩
  exact q3 r1 H1 ah1 d v [] [] q Q hh1 p1 rfl h1.2 (hq.step k1)
def isStr : D → AH → Prop := fun d _ => match d with
  | .str _ => True
  | _ => False
def isLst : D → AH → Prop := fun d ah => match d with
  | .ref n => (match ah[n]? with
    | some (.lst _) => True
    | _ => False)
  | _ => False
theorem isStr_ty {r : List Addr} {H : Hp} {ah : AH} {d : D} {v : V} (hh : HRep K r H ah) (p : Rep K r H d v) (h : isStr d ah) : tyV K "str" v H := by
  cases d <;> first | exact h.elim | (cases p; rfl)
theorem isLst_ty {r : List Addr} {H : Hp} {ah : AH} {d : D} {v : V} (hh : HRep K r H ah) (p : Rep K r H d v) (h : isLst d ah) : tyV K "list" v H := by
  unfold isLst at h
  split at h
  · obtain ⟨a, e1, rfl⟩ := p
    split at h
    · obtain ⟨xs, f, rv⟩ := hh.ob _ _ _ e1 (by assumption)
      exact .inl ⟨rfl, xs, .of f⟩
    · exact h.elim
  · exact h.elim
def fAppend : FM := fun d ds ah q => match d, ds with
  | .ref n, [y] => (match ah[n]? with
    | some (.lst xs) => xs.length < sizeLine ∧ q .non (ah.set n (.lst (xs ++ [y])))
    | _ => False)
  | _, _ => False
theorem met_append : MetX X "list" "list.append" isLst fAppend := by
  refine ⟨_, mt_append, fun rr H ah d v hh p h => isLst_ty hh p h, fun rr H ah d v ds vs q Q hh p ps w hq => ?_⟩
  unfold fAppend at w
  split at w
  · obtain ⟨a, e1, rfl⟩ := p
    obtain ⟨y', rfl, py⟩ := ps.one_of
    split at w
    · obtain ⟨xs, f, rv⟩ := hh.ob _ _ _ e1 (by assumption)
      have kw := Kp.write (u := .lst (xs ++ [y'])) hh (List.mem_of_getElem? e1)
      exact ⟨a, xs, y', rfl, rfl, f, by rw [rv.length]; exact w.1, hq _ _ w.2 rr _ _ kw (hh.set e1 ⟨_, upd_same, (rv.append (Reps.one py)).mono kw⟩) rfl⟩
    · exact w.elim
  · exact w.elim

/-! ### repr, and further ones -/
theorem Dp.dict : ∀ {H : Hp} {v : V} {d : PyData}, Dp K H v d → d.hasDict = false := by
  intro H
  have main : ∀ (d : PyData), (∀ v, Dp K H v d → d.hasDict = false) := by
    intro d
    refine PyData.rec (motive_1 := fun d => ∀ v, Dp K H v d → d.hasDict = false) (motive_2 := fun ds => ∀ vs, DpAll K H vs ds → PyData.hasDictAll ds = false) (motive_3 := fun _ => True) (motive_4 := fun _ => True) ?_ ?_ ?_ ?_ ?_ ?_ ?_ ?_ ?_ ?_ ?_ ?_ d
    · intro v h; rfl
    · intro b v h; rfl
    · intro b v h; rfl
    · intro b v h; rfl
    · intro xs ih v h
      cases h with
      | lst _ q => exact ih _ q
    · intro xs ih v h
      cases h with
      | tup _ q => exact ih _ q
    · intro kvs _ v h; cases h
    · intro vs h; rfl
    · intro d ds ih1 ih2 vs h
      cases h with
      | cons a b =>
        show (d.hasDict || PyData.hasDictAll ds) = false
        rw [ih1 _ a, ih2 _ b]; rfl
    · trivial
    · intros; trivial
    · intros; trivial
  intro v d h
  exact main d v h
theorem call_reprD (hg : X.A.guards = some []) (hu : X.A.units + 65 < cLine) : CallR X (.builtin "repr") (fun xs H Q => ∃ x d, xs = [x] ∧ Dp X.K H x d ∧ d.showable = true ∧ d.depth ≤ 64 ∧ d.shown.length ≤ sizeLine ∧ Q (.str d.shown) H) := by
  intro pins s σ H xs us Q I r h
  obtain ⟨x, d, rfl, hd, hs, hdp, hl, q⟩ := h
  obtain ⟨u, rfl, rx⟩ := vals1 r
  have hnd := Dp.dict hd
  obtain ⟨as, rd⟩ := Dp.reads I d x u hd rx
  cases x with
  | non => cases hd; cases rx; exact PySem.P.repr_of_none ⟨.str _, H, I.tok _, ⟨_, rfl⟩, q⟩
  | bl b => cases hd; cases rx; exact PySem.P.repr_of_bool ⟨.str _, H, I.tok _, ⟨_, rfl⟩, by cases b <;> exact q⟩
  | int i => cases hd; obtain ⟨t, rfl⟩ := rx; exact PySem.P.repr_of_int (of_decide_eq_true hs) ⟨.str _, H, I.tok _, ⟨_, rfl⟩, q⟩
  | str z => cases hd; obtain ⟨t, rfl⟩ := rx; exact PySem.P.repr_of_str ⟨.str _, H, I.tok _, ⟨_, rfl⟩, q⟩ hl
  | ref a =>
    cases rx
    exact repr_of_reads' rd hs (PyData.noDict_hsm hnd) hg (by omega) (fun _ _ e => e) (fun h' u tk hk => ⟨.str _, H, I.kept hk, ⟨_, rfl⟩, q⟩) hl
  | _ => cases hd
def gRepr : FA := fun ds ah q => match ds with
  | [d] => (match pd 20 ah d with
    | some p => p.showable = true ∧ p.depth ≤ 64 ∧ p.shown.length ≤ sizeLine ∧ q (.str p.shown) ah
    | none => False)
  | _ => False
theorem cal_repr (hg : X.A.guards = some []) (hu : X.A.units + 65 < cLine) : Cal X (.builtin "repr") gRepr := by
  refine ⟨_, call_reprD hg hu, fun rr H ah ds vs q Q hh p w hq => ?_⟩
  unfold gRepr at w
  split at w
  · obtain ⟨v, rfl, p1⟩ := p.one_of
    split at w
    · exact ⟨v, _, rfl, pd_dp hh _ _ _ _ p1 (by assumption), w.1, w.2.1, w.2.2.1, hq.here w.2.2.2 hh rfl⟩
    · exact w.elim
  · exact w.elim
def gMaxL : FA := fun ds ah q => match ds with
  | [.ref n] => (match ah[n]? with
    | some (.lst l) => ∃ ns : List Int, l = ns.map D.int ∧ 0 < ns.length ∧ ∀ m, m ∈ ns → (∀ y, y ∈ ns → y ≤ m) → q (.int m) ah
    | _ => False)
  | _ => False
theorem cal_maxL (hc : X.calm = true) : Cal X (.builtin "max") gMaxL := by
  refine ⟨_, cr_max hc, fun rr H ah ds vs q Q hh p w hq => ?_⟩
  unfold gMaxL at w
  split at w
  · obtain ⟨v, rfl, a, e1, rfl⟩ := p.one_of
    split at w
    · obtain ⟨ns, rfl, h0, w⟩ := w
      obtain ⟨xs, f, rv⟩ := hh.ob _ _ _ e1 (by assumption)
      rw [rv.ints_of] at f
      exact ⟨a, ns, rfl, .of f, h0, fun m h1 h2 => hq.here (w m h1 h2) hh rfl⟩
    · exact w.elim
  · exact w.elim
def fSIndex : FM := fun d ds ah q => match d, ds with
  | .str z, [.str y] => ∃ i rest, Builtin.Str.occurrences z y 0 z.length 1 = i :: rest ∧ q (.int (i : Nat)) ah
  | _, _ => False
theorem met_sindex : MetX X "str" "str.index" isStr fSIndex := by
  refine ⟨_, mt_sindex, fun rr H ah d v hh p h => isStr_ty hh p h, fun rr H ah d v ds vs q Q hh p ps w hq => ?_⟩
  unfold fSIndex at w
  split at w
  · obtain ⟨y', rfl, py⟩ := ps.one_of
    cases p; cases py
    obtain ⟨i, rest, e, w⟩ := w
    exact ⟨_, _, i, rest, rfl, rfl, e, hq.here w hh rfl⟩
  · exact w.elim
def fJoin : FM := fun d ds ah q => match d, ds with
  | .str z, [.ref n] => (match ah[n]? with
    | some (.lst l) => ∃ ys : List Str, l = ys.map D.str ∧ (ys.map (·.length)).sum + ys.length * z.length ≤ 16777216 ∧ q (.str (Txt.join z ys)) ah
    | _ => False)
  | _, _ => False
theorem met_join : MetX X "str" "str.join" isStr fJoin := by
  refine ⟨_, mt_join, fun rr H ah d v hh p h => isStr_ty hh p h, fun rr H ah d v ds vs q Q hh p ps w hq => ?_⟩
  unfold fJoin at w
  split at w
  · obtain ⟨y', rfl, a, e1, rfl⟩ := ps.one_of
    cases p
    split at w
    · obtain ⟨ys, rfl, hl, w⟩ := w
      obtain ⟨xs, f, rv⟩ := hh.ob _ _ _ e1 (by assumption)
      rw [rv.strs_of] at f
      exact ⟨_, a, ys, rfl, rfl, .inl (.of f), hl, hq.here w hh rfl⟩
    · exact w.elim
  · exact w.elim
/-- xs[::-1] of a list -/
def wRev (w : WE) : WE := fun env ah q x => w env ah (fun d ah1 => match d with
  | .ref n => (match ah1[n]? with
    | some (.lst l) => newL l.reverse ah1 q
    | _ => False)
  | _ => False) x
theorem de_rev {k : Nat} {p1 p2 p3 : Pos} (h : DE X e we) : DE X (.Subscript e (.Slice none none (some (.UnaryOp .USub (.Constant (.int 1) k p1) p2)) p3) pos) (wRev we) := fun W tk =>
  (pe_revL (h W tk)).weak fun s H Q ⟨r, env, ah, q, x, he, hh, hw, hq, hx⟩ => by
    refine ⟨r, env, ah, _, x, he, hh, hw, fun d ah1 h1 r1 H1 v k1 hh1 p1 => ?_, hx⟩
    dsimp only at h1
    split at h1
    · obtain ⟨a, e1, rfl⟩ := p1
      split at h1
      · obtain ⟨xs, f, rv⟩ := hh1.ob _ _ _ e1 (by assumption)
        exact ⟨a, xs, rfl, .of f, fun p hp => newL_ok hh1 rv.reverse h1 (hq.step k1) hp⟩
      · exact h1.elim
    · exact h1.elim

/-! ### a dict's display -/
abbrev WD := En → AH → (List (D × D) → AH → Prop) → QX → Prop
def wdNil : WD := fun _ ah q _ => q [] ah
def wdCons (k v : WE) (r : WD) : WD := fun env ah q x => k env ah (fun d ah1 => v env ah1 (fun d' ah2 => r env ah2 (fun ps ah3 => q ((d, d') :: ps) ah3) x) x) x
def keysD : List (D × D) → Option (List (Key × D))
  | [] => some []
  | (k, d) :: l => match keyD k, keysD l with
    | some k, some l => some ((k, d) :: l)
    | _, _ => none
def wDict (w : WD) : WE := fun env ah q x => w env ah (fun ps ah1 => match keysD ps with
  | some kvs => kvs.length ≤ 15 ∧ q (.ref ah1.length) (ah1 ++ [.dct (kvs.foldl (fun acc kv => putD acc kv.1 kv.2) [])])
  | none => False) x
def RepPs (K : PySem.W.Frag) (r : List Addr) (H : Hp) : List (D × D) → List (V × V) → Prop
  | [], vs => vs = []
  | (k, d) :: l, vs => ∃ u v vr, vs = (u, v) :: vr ∧ Rep K r H k u ∧ Rep K r H d v ∧ RepPs K r H l vr
def LD (K : PySem.W.Frag) (w : WD) (W : WX) (p : Addr) : L2.St → Hp → (List (V × V) → Hp → Prop) → Prop := fun s H Q => ∃ r env ah q x, ERep K r H env s ∧ HRep K r H ah ∧ p ∉ r ∧ H p = some (.dK []) ∧ w env ah q x ∧
  (∀ ps ah', q ps ah' → ∀ r' H' vs, Kp K r H r' H' → HRep K r' H' ah' → p ∉ r' → H' p = some (.dK []) → RepPs K r' H' ps vs → Q vs H') ∧ CnX K r H x (fun c d H' => W c d s H')
structure DDs (X : Cx) (pos : Pos) (keys : List (Option Expr)) (values : List Expr) (w : WD) : Prop where
  ex : ∀ W, Takes X W → ∃ trs, PPs X pos keys values trs ∧ ∀ p s H Q, LD X.K w W p s H Q → tPairs trs s H Q
theorem dd_nil : DDs X pos [] [] wdNil := ⟨fun W tk => ⟨_, pps_nil, fun p s H Q ⟨r, env, ah, q, x, he, hh, np, ep, hw, hq, hx⟩ => hq _ _ hw r H [] Kp.refl hh np ep rfl⟩⟩
theorem Kp.off {r r' : List Addr} {H H' : Hp} {p : Addr} {u : HO} (k : Kp K r H r' H') (np : p ∉ r) (ep : H p = some u) (nt : ∀ ps, u ≠ .tbl ps) : p ∉ r' ∧ H' p = some u := by
  refine ⟨fun z => ?_, k.out p u np ep nt⟩
  rcases k.new p z with z | z
  · exact np z
  · rw [ep] at z; cases z
theorem dd_cons {ke ve : Expr} {ks : List (Option Expr)} {vs : List Expr} {wk wv : WE} {wr : WD} (hk : DE X ke wk) (hv : DE X ve wv) (hr : DDs X pos ks vs wr) : DDs X pos (some ke :: ks) (ve :: vs) (wdCons wk wv wr) := ⟨fun W tk => by
  obtain ⟨trs, h1, h2⟩ := hr.ex W tk
  refine ⟨_, pps_cons (hk W tk) (hv W tk) h1, fun p s H Q ⟨r, env, ah, q, x, he, hh, np, ep, hw, hq, hx⟩ => ?_⟩
  refine ⟨r, env, ah, _, x, he, hh, hw, fun d ah1 g1 r1 H1 v1 k1 hh1 p1 => ?_, hx⟩
  obtain ⟨np1, ep1⟩ := k1.off np ep (by simp)
  refine ⟨r1, env, ah1, _, x, he.mono k1, hh1, g1, fun d2 ah2 g2 r2 H2 v2 k2 hh2 p2 => ?_, hx.step k1⟩
  obtain ⟨np2, ep2⟩ := k2.off np1 ep1 (by simp)
  have k12 := k1.trans k2
  refine h2 p s H2 _ ⟨r2, env, ah2, _, x, he.mono k12, hh2, np2, ep2, g2, fun ps ah3 g3 r3 H3 vs k3 hh3 np3 ep3 p3 => ?_, hx.step k12⟩
  exact hq _ _ g3 r3 H3 _ (k12.trans k3) hh3 np3 ep3 ⟨_, _, _, rfl, (p1.mono k2).mono k3, p2.mono k3, p3⟩⟩

theorem repPs_keys {r : List Addr} {H : Hp} : ∀ {ps : List (D × D)} {vs : List (V × V)} {kvs : List (Key × D)}, RepPs K r H ps vs → keysD ps = some kvs → ∃ ws : List (Key × V), vs = ws.map (fun kv => (kV kv.1, kv.2)) ∧ RepF K r H kvs ws
  | [], vs, kvs, h, e => by cases h; cases e; exact ⟨[], rfl, rfl⟩
  | (k, d) :: l, vs, kvs, ⟨u, v, vr, e1, p1, p2, p3⟩, e => by
    unfold keysD at e
    split at e
    · rename_i k' l' h1 h2
      cases e
      obtain ⟨ws, rfl, p⟩ := repPs_keys p3 h2
      rw [keyD_rep p1 h1] at e1
      exact ⟨(k', v) :: ws, e1, v, ws, rfl, p2, p⟩
    · cases e
theorem mergeD_rep {r : List Addr} {H : Hp} : ∀ {kvs : List (Key × D)} {ws : List (Key × V)} {acc : List (Key × D)} {as : List (Key × V)}, RepF K r H kvs ws → RepF K r H acc as → RepF K r H (kvs.foldl (fun acc kv => putD acc kv.1 kv.2) acc) (mergeK as ws)
  | [], ws, acc, as, h, q => by cases h; exact q
  | (k, d) :: l, ws, acc, as, ⟨v, vr, e, p, p2⟩, q => by subst e; exact mergeD_rep (kvs := l) (ws := vr) (acc := putD acc k d) (as := putK as k v) p2 (putD_rep k q p)
theorem sqT_late {H : Hp} {p : Addr} {u : HO} (ep : H p = some (.dK [])) {b : Addr} {xs : List V} (h : SqT K H b xs) : SqT K (upd H p u) b xs := by
  rcases h with h | h
  · refine .inl ?_
    rcases h with h | ⟨o, h⟩
    · exact .inl (by rw [upd_ne (fun z => by rw [z, ep] at h; cases h)]; exact h)
    · exact .inr ⟨o, by rw [upd_ne (fun z => by rw [z, ep] at h; cases h)]; exact h⟩
  · exact .inr h
theorem sqF_late {H : Hp} {p : Addr} {u : HO} (ep : H p = some (.dK [])) {b : Addr} {xs : List V} (h : SqF K H b xs) : SqF K (upd H p u) b xs := by
  rcases h with ⟨o, h⟩ | h
  · exact .inl ⟨o, by rw [upd_ne (fun z => by rw [z, ep] at h; cases h)]; exact h⟩
  · exact .inr h
theorem pre_late {r : List Addr} {p : Addr} (n : Nat) (a : Addr) (h : r[n]? = some a) : (r ++ [p])[n]? = some a := by
  rw [List.getElem?_append_left (List.getElem?_eq_some_iff.mp h).1]; exact h
theorem Kp.late {r r1 : List Addr} {H H1 : Hp} {p : Addr} {u : HO} (k : Kp K r (upd H p (.dK [])) r1 H1) (hp : H p = none) (np : p ∉ r1) (ep : H1 p = some (.dK [])) : Kp K r H (r1 ++ [p]) (upd H1 p u) := by
  refine ⟨fun n a h => pre_late n a (k.pre n a h), fun a xs h => sqT_late ep (k.tup a xs (sqT_new hp h)), fun a xs h => sqF_late ep (k.frl a xs (sqF_new hp h)), fun b o nb e nt => ?_, fun b hb => ?_, fun b ps e => ?_⟩
  · have ne : b ≠ p := ne_of_none e hp
    rw [upd_ne ne]
    exact k.out b o nb (by rw [upd_ne ne]; exact e) nt
  · rcases List.mem_append.mp hb with z | z
    · rcases k.new b z with q | q
      · exact .inl q
      · by_cases hbp : b = p
        · subst hbp; exact .inr hp
        · rw [upd_ne hbp] at q; exact .inr q
    · rw [List.mem_singleton.mp z]; exact .inr hp
  · have ne : b ≠ p := ne_of_none e hp
    obtain ⟨m, z⟩ := k.tb b ps (by rw [upd_ne ne]; exact e)
    exact ⟨m, by rw [upd_ne ne]; exact z⟩
theorem HRep.late {r : List Addr} {H : Hp} {ah : AH} {p : Addr} {u : HO} {o : O} (h : HRep K r H ah) (np : p ∉ r) (ep : H p = some (.dK [])) (q : ORep K (r ++ [p]) (upd H p u) p o) : HRep K (r ++ [p]) (upd H p u) (ah ++ [o]) := by
  refine ⟨by simp [h.len], ?_, fun n a o' e1 e2 => ?_⟩
  · rw [List.nodup_append]
    exact ⟨h.nd, by simp, fun x hx y hy z => np (by rw [← List.mem_singleton.mp hy, ← z]; exact hx)⟩
  · by_cases hn : n < r.length
    · rw [List.getElem?_append_left hn] at e1
      rw [List.getElem?_append_left (by rw [← h.len]; exact hn)] at e2
      have hr := h.ob n a o' e1 e2
      have ne : a ≠ p := fun z => np (z ▸ List.mem_of_getElem? e1)
      have fm : ∀ {α : Type} {l : List (α × D)} {vs : List (α × V)}, RepF K r H l vs → RepF K (r ++ [p]) (upd H p u) l vs := fun w => w.mono3 pre_late (fun _ _ => sqT_late ep) (fun _ _ => sqF_late ep)
      have off : ∀ {d : Addr} {x : HO}, H d = some x → x ≠ .dK [] → d ∉ r → d ∉ r ++ [p] ∧ upd H p u d = some x := fun {d x} h1 h2 h3 => by
        have nd : d ≠ p := fun z => by rw [z, ep] at h1; cases h1; exact h2 rfl
        exact ⟨fun z => (List.mem_append.mp z).elim h3 fun z => nd (List.mem_singleton.mp z), by rw [upd_ne nd]; exact h1⟩
      cases o' with
      | lst xs => obtain ⟨vs, z, w⟩ := hr; exact ⟨vs, by rw [upd_ne ne]; exact z, w.mono3 pre_late (fun _ _ => sqT_late ep) (fun _ _ => sqF_late ep)⟩
      | dct xs => obtain ⟨vs, z, w⟩ := hr; exact ⟨vs, by rw [upd_ne ne]; exact z, fm w⟩
      | dcl xs => obtain ⟨vs, o, z, w⟩ := hr; exact ⟨vs, o, by rw [upd_ne ne]; exact z, fm w⟩
      | ins C xs => obtain ⟨dx, vs, z, h1, h2, w⟩ := hr; exact ⟨dx, vs, by rw [upd_ne ne]; exact z, (off h2 (by simp) h1).1, (off h2 (by simp) h1).2, fm w⟩
      | exc C xs =>
        obtain ⟨dx, vs, z, h1, h2, w⟩ := hr
        exact ⟨dx, vs, by rw [upd_ne ne]; exact z, fun d hd => off (h1 d hd).2 (by simp) (h1 d hd).1, h2, fm w⟩
      | raw x => obtain ⟨z, w⟩ := hr; exact ⟨by rw [upd_ne ne]; exact z, w⟩
    · rw [List.getElem?_append_right (by omega)] at e1
      rw [List.getElem?_append_right (by rw [← h.len]; omega)] at e2
      rw [h.len] at e1
      cases m : n - ah.length with
      | zero => rw [m] at e1 e2; cases e1; cases e2; exact q
      | succ k => rw [m] at e1; simp at e1
theorem de_dict {ks : List (Option Expr)} {vs : List Expr} {w : WD} (h : DDs X pos ks vs w) (hall : ks.all (·.isSome) = true := by rfl) (hl : ks.length = vs.length := by rfl) (h0 : ks ≠ [] := by simp) (h15 : ks.length ≤ 15 := by decide) : DE X (.Dict ks vs pos) (wDict w) := fun W tk => by
  obtain ⟨trs, h1, h2⟩ := h.ex W tk
  refine (pe_disp h1 hall hl h0 h15).weak fun s H Q ⟨r, env, ah, q, x, he, hh, hw, hq, hx⟩ p hp => ?_
  refine h2 p s _ _ ⟨r, env, ah, _, x, he.mono (Kp.new_ hp), hh.new_ hp, hh.fresh hp, upd_same, hw, fun ps ah1 g r1 H1 vs k1 hh1 np ep pr => ?_, hx.step (Kp.new_ hp)⟩
  split at g
  · obtain ⟨ws, e, rf⟩ := repPs_keys pr (by assumption)
    refine ⟨ep, ws, e, by rw [rf.length]; exact g.1, hq _ _ g.2 _ _ _ (k1.late hp np ep) (hh1.late np ep ⟨_, upd_same, (mergeD_rep rf (show RepF X.K r1 H1 [] [] from rfl)).mono3 pre_late (fun _ _ => sqT_late ep) (fun _ _ => sqF_late ep)⟩) ⟨p, ?_, rfl⟩⟩
    rw [List.getElem?_append_right (by rw [hh1.len]; exact Nat.le_refl _), hh1.len, Nat.sub_self]; rfl
  · exact g.elim
end
end Z
namespace Z
open PySem PySem.Spec PyProof.Rows L2
/-- room, and no repr runs around -/
structure RoomG (k : Nat) (A : Around) : Prop where
  room : Room k A
  gd : A.guards = some []
theorem RoomG.mono {j k : Nat} {A : Around} (r : RoomG k A) (h : j ≤ k) : RoomG j A := ⟨r.room.mono h, r.gd⟩
theorem RoomG.units {k : Nat} {A : Around} (r : RoomG k A) : A.units + 64 < cLine := r.room.units
theorem RoomG.u65 {k : Nat} {A : Around} (r : RoomG k A) : A.units + 65 < cLine := by have := r.room.un; omega
theorem RoomG.units1 {k : Nat} {A : Around} (r : RoomG k A) : A.units + 1 < cLine := by have := r.room.un; omega
/-- a def's promise where no repr runs around -/
structure FnG (P : Program) (wd : World) (K : PySem.W.Frag) (mg : Str → Option Value) (base : Heap) (k : Nat) (f : Addr) (fd : FuncData) (ps : List Str) (sp : Sp) : Prop where
  len : ∀ vs H Q E, sp vs H Q E → vs.length = ps.length
  run : ∀ (A : Around) (outer : List Env) (s : Shared) (H : Hp) (args : Args) (us : List Value) (vs : List V) (Q : VK) (E : XK), RoomG k A → Env0 P wd K mg base A outer s H → BindsTo s fd args (ps.zip us) → Vals vs us → sp vs H Q E →
    codeAny (model P wd) A (.call (.ref f) args) (CR (L2.CX P wd) outer P wd H s Q E) s
theorem FnG.mono {P : Program} {wd : World} {K : PySem.W.Frag} {mg : Str → Option Value} {base : Heap} {j k : Nat} {f : Addr} {fd : FuncData} {ps : List Str} {sp : Sp} (F : FnG P wd K mg base j f fd ps sp) (h : j ≤ k) : FnG P wd K mg base k f fd ps sp :=
  ⟨F.len, fun A outer s H args us vs Q E hr => F.run A outer s H args us vs Q E (hr.mono h)⟩
section
variable {X : Cx} {K : PySem.W.Frag} {u : WS} {e : Expr} {es : List Expr} {ws : WA} {pos : Pos}
/-! ### defs -/
def LSp (K : PySem.W.Frag) (sp : DSp) : Sp := fun vs H Q E => ∃ r ds ah q x, Reps K r H ds vs ∧ HRep K r H ah ∧ sp ds ah q x ∧ Cn K r H q Q ∧ CnX K r H x E
abbrev DFn (P : Program) (wd : World) (K : PySem.W.Frag) (mg : Str → Option Value) (base : Heap) (k : Nat) (f : Addr) (fd : FuncData) (ps : List Str) (sp : DSp) : Prop := FnG P wd K mg base k f fd ps (LSp K sp)
def startD (n : Nat) (ds : List D) : En := ds.map some ++ List.replicate (n - ds.length) none
variable {P : Program} {wd : World} {mg : Str → Option Value} {base : Heap} {k : Nat} {f : Addr} {fd : FuncData} {ps N : List Str} {sp : DSp}
theorem dfn_of {x qual : Str} {params : Arguments} {body : List Stmt} {scope : Scope} {dvs : List V} {kws : List (Str × V)} (F : FunD K x qual params body scope dvs kws f fd) (S : FnScope N ps scope) (len : ∀ ds ah q x, sp ds ah q x → ds.length = ps.length)
    (hbody : ∀ (cdv : Value) (A : Around) (outer : List Env) (s : Shared) (H : Hp) (E : XK), RoomG k (A.deeper (envOfC qual scope s.heap.objs.size f cdv)) → DSs (cxOf (L2.CX P wd) P wd K mg base N qual scope f cdv A outer s H E) body u)
    (hsp : ∀ ds ah q x, sp ds ah q x → u (startD N.length ds) ah { nx := fun _ ah' => q .non ah', rt := q } (fun e _ ah' => x e ah')) : DFn P wd K mg base (k + 1) f fd ps sp := by
  obtain ⟨oc, od, dV, kV, doc, pm, an, cdv, ct, osl, rfl, lk, hcd, _, _⟩ := F.ex
  refine ⟨fun vs H Q E ⟨r, ds, ah, q, x, rv, hh, h, hq, hx⟩ => by rw [rv.length]; exact len _ _ _ _ h, fun A outer s H args us vs Q E hr e0 hb rv0 ⟨r, ds, ah, q, x, rv, hh, h, hq, hx⟩ => ?_⟩
  refine LamX.run_ofS lk hcd S hr.room e0 hb rv0 (by rw [rv.length]; exact len _ _ _ _ h) fun hr' => ?_
  refine ⟨_, hbody cdv A outer s H E ⟨hr', hr.gd⟩ _ (takes_of rfl rfl rfl rfl), r, startD N.length ds, ah, _, _, ?_, hh, hsp ds ah q x h, ⟨fun env1 ah1 h1 r1 H1 s1 k1 hh1 he1 => hq _ _ h1 r1 H1 _ k1 hh1 rfl, hq, fun _ _ z => z.elim, fun _ _ z => z.elim⟩, fun C fs env1 ah1 h1 r1 H1 s1 dx k1 hh1 he1 xr => hx C fs ah1 h1 r1 H1 dx k1 hh1 xr⟩
  unfold startD L2.start
  rw [rv.length]
  exact ERep.start _ rv
theorem DFn.mono {j : Nat} (F : DFn P wd K mg base j f fd ps sp) (h : j ≤ k) : DFn P wd K mg base k f fd ps sp := FnG.mono F h
def wCall (sp : DSp) (dd : List D) (w : WA) : WE := fun env ah q x => w env ah (fun ds ah1 => sp (ds ++ dd) ah1 q x) x
theorem run_fnW {sp : Sp} {W : WX} {pins : List (Addr × Obj)} {σ : L2.St} {H : Hp} {s : Shared} {Q : VK} {us ds : List Value} {vs dvs : List V} (F : FnG X.prog X.w X.K X.mg X.base k f fd ps sp) (hr : RoomG k X.A) (hb : Binds X.K fd ps ds) (hd : Vals dvs ds) (tk : Takes X W)
    (I : Inv X pins σ H s) (r : Vals vs us) (h : sp (vs ++ dvs) H Q (fun c d H' => W c d σ H')) : wpAny (model X.prog X.w) X.A (call (.ref f) us) (EP X pins σ Q) X.xe s := by
  have r2 : Vals (vs ++ dvs) (us ++ ds) := r.append hd
  have hl : (us ++ ds).length = ps.length := r2.length ▸ F.len _ _ _ _ h
  refine wpAny_call (codeAny_mono (F.run X.A X.stack s H ⟨us, []⟩ (us ++ ds) (vs ++ dvs) Q _ hr I.env0 (hb s us I.kIn hl) r2 h) fun r s' hq => ?_)
  rcases r with e | fl
  · exact tk e s' (XE.of_call I (fun _ _ _ h => h) hq)
  · cases fl <;> first | exact hq.elim | exact I.after hq
theorem pe_callW {sp : Sp} {W : WX} {x : Str} {p : Pos} {ds : List Value} {dvs : List V} {t : TA} (F : FnG X.prog X.w X.K X.mg X.base k f fd ps sp) (hr : RoomG k X.A) (hg : Gl X x) (hm : X.mg x = some (.ref f)) (hk : PySem.W.keepIn X.K (.ref f) = true) (hb : Binds X.K fd ps ds) (hd : Vals dvs ds) (tk : Takes X W)
    (ha : PA X (e :: es) t) (hdb : (x == ("__debug__" : Str)) = false := by decide) (he : starEach (e :: es) X.env = (false, eval e X.env) :: starEach es X.env := by rfl) (hpl : (backTo pos (starEach es X.env)).any (·.1) = false := by rfl) :
    PE X (.Call (.Name x p) (e :: es) [] pos) (fun σ H Q => t σ H fun vs H1 => sp (vs ++ dvs) H1 Q (fun c d H' => W c d σ H')) :=
  ⟨fun pins s σ H Q I h => wpAny_Call_Name_kw (ld_glob I hg hm (PySem.W.callWith_K (h₀ := X.base) I.ok.mod.kin hk (thn (ha.run pos pins s σ H _ I h) fun us s1 ⟨vs, H1, I1, r, q⟩ => ⟨I1.kIn, run_fnW F hr hb hd tk I1 r q⟩) he hpl) hdb)⟩
theorem pe_callW0 {sp : Sp} {W : WX} {x : Str} {p : Pos} {ds : List Value} {dvs : List V} (F : FnG X.prog X.w X.K X.mg X.base k f fd ps sp) (hr : RoomG k X.A) (hg : Gl X x) (hm : X.mg x = some (.ref f)) (hk : PySem.W.keepIn X.K (.ref f) = true) (hb : Binds X.K fd ps ds) (hd : Vals dvs ds) (tk : Takes X W)
    (hdb : (x == ("__debug__" : Str)) = false := by decide) : PE X (.Call (.Name x p) [] [] pos) (fun σ H Q => sp dvs H Q (fun c d H' => W c d σ H')) :=
  ⟨fun pins s σ H Q I h => wpAny_Call_Name_kw (ld_glob I hg hm (PySem.W.callWith_K0 I.kIn hk (run_fnW (us := []) (vs := []) F hr hb hd tk I .nil h)) hdb)⟩
theorem de_call {x : Str} {p : Pos} {ds : List Value} {dvs : List V} {dd : List D} (F : DFn X.prog X.w X.K X.mg X.base k f fd ps sp) (hr : RoomG k X.A) (hg : Gl X x) (hm : X.mg x = some (.ref f)) (hk : PySem.W.keepIn X.K (.ref f) = true) (hb : Binds X.K fd ps ds) (hd : Vals dvs ds) (hdd : ∀ r H, Reps X.K r H dd dvs)
    (ha : DA X (e :: es) ws) (hdb : (x == ("__debug__" : Str)) = false := by decide) (he : starEach (e :: es) X.env = (false, eval e X.env) :: starEach es X.env := by rfl) (hpl : (backTo pos (starEach es X.env)).any (·.1) = false := by rfl) :
    DE X (.Call (.Name x p) (e :: es) [] pos) (wCall sp dd ws) := fun W tk =>
  (pe_callW F hr hg hm hk hb hd tk (ha W tk) hdb he hpl).weak fun s H Q ⟨r, env, ah, q, x, he, hh, hw, hq, hx⟩ =>
    ⟨r, env, ah, _, x, he, hh, hw, fun ds ah1 h1 r1 H1 vs k1 hh1 p1 => ⟨r1, _, ah1, q, x, p1.append (hdd r1 H1), hh1, h1, hq.step k1, hx.step k1⟩, hx⟩
theorem de_call0 {x : Str} {p : Pos} {ds : List Value} {dvs : List V} {dd : List D} (F : DFn X.prog X.w X.K X.mg X.base k f fd ps sp) (hr : RoomG k X.A) (hg : Gl X x) (hm : X.mg x = some (.ref f)) (hk : PySem.W.keepIn X.K (.ref f) = true) (hb : Binds X.K fd ps ds) (hd : Vals dvs ds) (hdd : ∀ r H, Reps X.K r H dd dvs)
    (hdb : (x == ("__debug__" : Str)) = false := by decide) : DE X (.Call (.Name x p) [] [] pos) (wCall sp dd wNil) := fun W tk =>
  (pe_callW0 F hr hg hm hk hb hd tk hdb).weak fun s H Q ⟨r, env, ah, q, x, he, hh, hw, hq, hx⟩ => ⟨r, _, ah, q, x, hdd r H, hh, hw, hq, hx⟩
/-- a def of the module, known to the derivations: its name, how far down it reaches, its parameters, its promise -/
def Has (P : Program) (wd : World) (K : PySem.W.Frag) (mg : Str → Option Value) (base : Heap) (x : Str) (k : Nat) (ps : List Str) (sp : DSp) : Prop :=
  ∃ f fd, mg x = some (.ref f) ∧ PySem.W.keepIn K (.ref f) = true ∧ Binds K fd ps [] ∧ DFn P wd K mg base k f fd ps sp
theorem de_fn {j : Nat} {x : Str} {p : Pos} (F : Has X.prog X.w X.K X.mg X.base x k ps sp) (hr : RoomG j X.A) (hj : k ≤ j) (hg : Gl X x) (ha : DA X (e :: es) ws) (hdb : (x == ("__debug__" : Str)) = false := by decide) (he : starEach (e :: es) X.env = (false, eval e X.env) :: starEach es X.env := by rfl) (hpl : (backTo pos (starEach es X.env)).any (·.1) = false := by rfl) :
    DE X (.Call (.Name x p) (e :: es) [] pos) (wCall sp [] ws) := by
  obtain ⟨f, fd, h1, h2, h3, h4⟩ := F
  exact de_call h4 (hr.mono hj) hg h1 h2 h3 .nil (fun _ _ => rfl) ha hdb he hpl
theorem de_fn0 {j : Nat} {x : Str} {p : Pos} (F : Has X.prog X.w X.K X.mg X.base x k ps sp) (hr : RoomG j X.A) (hj : k ≤ j) (hg : Gl X x) (hdb : (x == ("__debug__" : Str)) = false := by decide) : DE X (.Call (.Name x p) [] [] pos) (wCall sp [] wNil) := by
  obtain ⟨f, fd, h1, h2, h3, h4⟩ := F
  exact de_call0 h4 (hr.mono hj) hg h1 h2 h3 .nil (fun _ _ => rfl) hdb
end
end Z
namespace Z
open PySem PySem.Spec PyProof.Rows L2 LamX
/-- what is tracked at a law's call: the script, frozen, and the tables -/
structure Init (K : PySem.W.Frag) (cs : List (Addr × Addr)) (a : Addr) (vs : List Value) (xs : List V) (H : Hp) : Prop where
  dom : ∀ b u, H b = some u → (b = a ∧ K.lookup a = none ∧ u = .frz { cls := .type "list", data := .seq vs.toArray } (.lst xs)) ∨ (b ∈ cs.map (·.2) ∧ u = .tbl #[])
  tab : ∀ p ∈ cs, H p.2 = some (.tbl #[])
  scr : SqF K H a xs
section
variable {P : Program} {w : World} {K : PySem.W.Frag} {mg mb : Str → Option Value} {k : Nat} {fa a : Addr} {cs : List (Addr × Addr)} {fd : FuncData} {x : Str} {sp : DSp} {s : Shared} {vs : List Value} {ns : List Int} {H : Hp}
theorem init_ex (KX : K.In s.heap) (hT : ∀ p ∈ cs, s.heap.get? p.2 = some { cls := .none, data := .fields #[] }) (ha : s.heap.get? a = some { cls := .type "list", data := .seq vs.toArray }) (hi : IntsAre vs ns) (hl : ns.length ≤ sizeLine) :
    ∃ H : Hp, Init K cs a vs (ns.map V.int) H := by
  have aT : a ∉ cs.map (·.2) := fun z => by
    obtain ⟨p, hp, e⟩ := List.mem_map.mp z
    have q := hT p hp
    rw [e, ha] at q
    cases q
  have pa : ∀ p ∈ cs, p.2 ≠ a := fun p hp z => aT (z ▸ List.mem_map.mpr ⟨p, hp, rfl⟩)
  have pm : ∀ p ∈ cs, p.2 ∈ cs.map (·.2) := fun p hp => List.mem_map.mpr ⟨p, hp, rfl⟩
  cases hk : K.lookup a with
  | some o =>
    have e := KX a o hk
    rw [ha] at e
    cases e
    refine ⟨fun b => if b ∈ cs.map (·.2) then some (.tbl #[]) else none, fun b u e => ?_, fun p hp => if_pos (pm p hp), .inr ⟨_, vs.toArray, _, hk, rfl, rfl, rfl, by rw [List.size_toArray, hi.length]; exact hl, by simpa using vals_ints hi⟩⟩
    split at e
    · cases e; exact .inr ⟨by assumption, rfl⟩
    · cases e
  | none =>
    refine ⟨fun b => if b = a then some (.frz { cls := .type "list", data := .seq vs.toArray } (.lst (ns.map V.int))) else if b ∈ cs.map (·.2) then some (.tbl #[]) else none, fun b u e => ?_, fun p hp => by rw [if_neg (pa p hp), if_pos (pm p hp)], .inl ⟨_, if_pos rfl⟩⟩
    split at e
    · cases e; exact .inl ⟨by assumption, hk, rfl⟩
    · split at e
      · cases e; exact .inr ⟨by assumption, rfl⟩
      · cases e
/-- who is tracked is a list or an empty row of fields -/
theorem Init.none_ (I : Init K cs a vs (ns.map V.int) H) (hT : ∀ p ∈ cs, s.heap.get? p.2 = some { cls := .none, data := .fields #[] }) (ha : s.heap.get? a = some { cls := .type "list", data := .seq vs.toArray }) {b : Addr} {o : Obj} (e : s.heap.get? b = some o)
    (n1 : ∀ vs n, o.data ≠ .seq vs n) (n2 : o.data ≠ .fields #[]) : H b = none := by
  cases q : H b with
  | none => rfl
  | some u =>
    rcases I.dom b u q with ⟨rfl, _⟩ | ⟨z, _⟩
    · rw [ha] at e; cases e; exact (n1 _ _ rfl).elim
    · obtain ⟨p, hp, rfl⟩ := List.mem_map.mp z
      rw [hT p hp] at e; cases e; exact (n2 rfl).elim
theorem law_callG (KX : K.In s.heap) (hns : s.heap.Ns mainGlobals mg) (hb : s.heap.Ns builtinsNs mb) (hbb : ∀ x : Str, x ≠ "__name__" → mb x = bootBuiltins x) (hlim : s.heap.NoLimit) (hg : s.gens = #[])
    (hT : ∀ p ∈ cs, s.heap.get? p.2 = some { cls := .none, data := .fields #[] }) (nT : ∀ p ∈ cs, K.lookup p.2 = none) (C : ∀ p ∈ cs, PySem.W.CodeHd s.heap p.1 p.2)
    (hbm : ∃ (bm : Addr) (ob : Obj), mg "__builtins__" = some (.ref bm) ∧ bm ≠ builtinsNs ∧ s.heap.get? bm = some ob ∧ ob.cls = .type "module" ∧ ob.dict = some builtinsNs ∧ ob.data = .plain)
    (ha : s.heap.get? a = some { cls := .type "list", data := .seq vs.toArray }) (hi : IntsAre vs ns) (hl : ns.length ≤ sizeLine) (hr : Room k callerA)
    (F : ∀ base : Heap, K.In base → base.Ns mainGlobals mg → (∀ p ∈ cs, TabB base mg p.1 p.2) → DFn P w K mg base k fa fd [x] sp) (hbind : ∀ (s : Shared) (u : Value), BindsTo s fd ⟨[u], []⟩ [(x, u)])
    (hsp : sp [.frl (ns.map D.int)] [] (fun d _ => d = .bl true) fun _ _ => False) :
    codeAny (model P w) callerA (.call (.ref fa) ⟨[.ref a], []⟩) (fun r s' => r = .ok (.ret (.bool true)) ∧ OldK s.heap s'.heap ∧ s'.os = s.os ∧ AllBare s'.gens) s := by
  obtain ⟨H, I⟩ := init_ex (cs := cs) KX hT ha hi hl
  have hok : HOk P w H s.heap := fun b u e => by
    rcases I.dom b u e with ⟨e1, _, e2⟩ | ⟨z, e2⟩
    · subst e1; subst e2
      exact ⟨ha, by rw [List.length_map]; exact hl, vs, _, vals_ints hi, ha⟩
    · subst e2
      obtain ⟨p, hp, rfl⟩ := List.mem_map.mp z
      exact hT p hp
  have there : ∀ {b : Addr} {o : Obj}, s.heap.get? b = some o → (∀ vs n, o.data ≠ .seq vs n) → o.data ≠ .fields #[] → (hidT s.heap H).get? b = some o := fun e n1 n2 => hidT_get e (I.none_ hT ha e n1 n2)
  have nsK : ∀ {b : Addr} {m : Str → Option Value}, s.heap.Ns b m → (hidT s.heap H).Ns b m := fun ⟨o, es, ep, e, d, r⟩ => ⟨o, es, ep, there e (fun _ _ z => by rw [d] at z; cases z) (fun z => by rw [d] at z; cases z), d, r⟩
  have hKb : K.In (hidT s.heap H) := fun b o e => hidT_get (KX b o e) (by
    cases q : H b with
    | none => rfl
    | some u =>
      rcases I.dom b u q with ⟨e1, e2, _⟩ | ⟨z, _⟩
      · rw [e1, e2] at e; cases e
      · obtain ⟨p, hp, rfl⟩ := List.mem_map.mp z
        rw [nT p hp] at e; cases e)
  have TB : ∀ p ∈ cs, TabB (hidT s.heap H) mg p.1 p.2 := fun p hp => by
    have hTp := hT p hp
    refine ⟨?_, ?_, fun z => ?_⟩
    · obtain ⟨o, us, file, tf, flags, tg, inF, text, tt, e1, r1, r2, rest⟩ := C p hp
      refine ⟨o, us, file, tf, flags, tg, inF, text, tt, there e1 (fun _ _ z => by rw [r2] at z; cases z) (fun z => ?_), r1, r2, rest⟩
      rw [r2] at z
      cases z
      have r3 := rest.1
      simp at r3
    · obtain ⟨bm, ob, b1, b2, b3, b4, b5, b6⟩ := hbm
      refine ⟨bm, ob, b1, b2, fun q => ?_, fun q => ?_, there b3 (fun _ _ z => by rw [b6] at z; cases z) (fun z => by rw [b6] at z; cases z), b4, b5, b6⟩
      · obtain ⟨o, es, ep, e, hd, _⟩ := hns
        rw [q, e] at b3
        cases b3
        rw [hd] at b6
        cases b6
      · rw [q, hTp] at b3
        cases b3
        cases b6
    · obtain ⟨o, es, ep, e, hd, _⟩ := hns
      rw [z, hTp] at e
      cases e
      cases hd
  have e0 : Env0 P w K mg (hidT s.heap H) callerA [] s H :=
    ⟨rfl, ⟨hKb, nsK hns, ⟨mb, nsK hb, hbb⟩, let ⟨mc, h1, h2⟩ := hlim; ⟨mc, nsK h1, h2⟩⟩, fun b o e => of_hidT e, Nat.le_of_eq (hidT_size _ _), trivial, fun b hb => absurd (show b ∈ ([] : List Addr) from hb) (by simp), hok, .of_eq hg⟩
  have ri : ∀ l : List Int, Reps K [] H (l.map D.int) (l.map V.int) := fun l => by
    induction l with
    | nil => rfl
    | cons i l ih => exact ⟨_, _, rfl, rfl, ih⟩
  have hS : LSp K sp [.ref a] H (fun v _ => v = .bl true) fun _ _ _ => False :=
    ⟨[], [.frl (ns.map D.int)], [], _, _, ⟨_, _, rfl, ⟨a, _, rfl, I.scr, ri ns⟩, rfl⟩, ⟨rfl, List.nodup_nil, fun n a o e => by simp at e⟩, hsp, fun d ah e r H' v k hh p => by subst e; exact p, fun _ _ _ z => z.elim⟩
  refine codeAny_mono ((F _ hKb (nsK hns) TB).run callerA [] s H ⟨[.ref a], []⟩ [.ref a] [.ref a] _ _ ⟨hr, rfl⟩ e0 (hbind s (.ref a)) (.cons rfl .nil) hS) fun r s' h => ?_
  rcases r with e | fl
  · obtain ⟨_, _, _, _, _, _, _, _, _, _, _, _, _, _, _, _, z⟩ := h
  · cases fl with
    | next => exact False.elim h
    | brk => exact False.elim h
    | cont => exact False.elim h
    | ret u =>
      obtain ⟨v, H', os, bare, un, hok', r', q⟩ := h
      obtain rfl : v = .bl true := q
      obtain rfl : u = Value.bool true := r'
      have same : ∀ b o, b ∉ cs.map (·.2) → s.heap.get? b = some o → s'.heap.get? b = some o := fun b o nb e => by
        cases q : H b with
        | none => exact un.keep b o e q (fun z => absurd (show b ∈ ([] : List Addr) from z) (by simp)) (by simp)
        | some u =>
          rcases I.dom b u q with ⟨_, _, rfl⟩ | ⟨z, _⟩
          · have e1 := (hok b _ q).1
            rw [e] at e1; cases e1
            exact (hok' b _ (un.frzs b _ _ q)).1
          · exact absurd z nb
      have grown : ∀ p ∈ cs, ∃ more : Array Value, s'.heap.get? p.2 = some { cls := .none, data := .fields more } := fun p hp => by
        obtain ⟨more, z⟩ := un.tbls p.2 #[] (I.tab p hp)
        exact ⟨_, hok' p.2 _ z⟩
      refine ⟨rfl, ⟨fun b o e => ?_, fun b o e => ?_⟩, os, bare⟩
      · by_cases hb : b ∈ cs.map (·.2)
        · obtain ⟨p, hp, rfl⟩ := List.mem_map.mp hb
          obtain ⟨more, hm⟩ := grown p hp
          rw [hT p hp] at e
          cases e
          exact .inr (.inl ⟨((C p hp).tab (hT p hp)).isCodeTable, rfl, #[], more, rfl, by rw [Array.empty_append]; exact hm⟩)
        · exact .inl (same b o hb e)
      · by_cases hb : b ∈ cs.map (·.2)
        · obtain ⟨p, hp, rfl⟩ := List.mem_map.mp hb
          obtain ⟨more, hm⟩ := grown p hp
          exact ⟨_, hm⟩
        · exact ⟨o, same b o hb e⟩
end
/-- the walk of a law from the promise of its def -/
theorem walk_G {l : PySem.W.OpenLaw} {n k : Nat} {q : Program} {loose : List Str} {XP : (Str → Option Value) → Heap → Prop} {YP : World → Heap → Prop} {d : DefRec} {x : Str} {sp : DSp}
    (hn : l.most = some n) (hn2 : n ≤ sizeLine) (hdf : d.params.defaults = []) (hr : Room k callerA)
    (hsp : ∀ ns : List Int, ns.length ≤ n → (∀ z ∈ ns, Builtin.Int.intBits z ≤ 1048576) → sp [.frl (ns.map D.int)] [] (fun d _ => d = .bl true) fun _ _ => False)
    (F : ∀ (w : World) (mg : Str → Option Value) (fa : Addr) (h : Heap), YP w h → h.Ns mainGlobals mg → mg d.name = some (.ref fa) →
      ∃ (K : PySem.W.Frag) (fd : FuncData) (cs : List (Addr × Addr)), K.In h ∧ (∀ p ∈ cs, h.get? p.2 = some { cls := .none, data := .fields #[] }) ∧ (∀ p ∈ cs, K.lookup p.2 = none) ∧ (∀ p ∈ cs, PySem.W.CodeHd h p.1 p.2) ∧ (∀ (s : Shared) (u : Value), BindsTo s fd ⟨[u], []⟩ [(x, u)]) ∧
        ∀ base : Heap, K.In base → base.Ns mainGlobals mg → (∀ p ∈ cs, TabB base mg p.1 p.2) → DFn l.prog w K mg base k fa fd [x] sp) :
    PySem.W.WalkO q loose XP YP l.row.toRowW d [] (fun f vs => PySem.call f vs) := by
  refine Att.attach_callB hn hdf fun w s₀ s₁ mg mb fa o pm cd doc a vs ns G Y ho hd hcd hmg hobj hints hlen hbits hg => ?_
  obtain ⟨K, fd, cs, KX, hT, nT, C, hb, hF⟩ := F w mg fa _ Y G.T.g hmg
  exact law_callG KX G.T.g G.T.b G.T.builtins G.T.nolimit hg hT nT C G.T.bmain hobj hints (Nat.le_trans hlen hn2) hr hF hb (hsp ns hlen hbits)
end Z
namespace Z
open PySem PySem.Spec PyProof.Rows L2
/-! the head's facts, with the module's own tuples -/
abbrev Tups := List (Str × List He.Dv)
def obsZ (fa : List He.Fa) (fn : List He.DefD) (tp : Tups) (K : PySem.W.Frag) : He.AlD := ((tp.all fun p => He.tupB K p.1 p.2) && ((fa.all fun f => f.ok K) && fn.all fun d => d.ok K), fn.map fun d => He.fnW K d.at_)
structure SaysZ (fa : List He.Fa) (fn : List He.DefD) (tp : Tups) (K : PySem.W.Frag) : Prop where
  d : He.SaysD fa fn K
  t : (tp.all fun p => He.tupB K p.1 p.2) = true
theorem saysZ_of {fa : List He.Fa} {fn : List He.DefD} {tp : Tups} {K : PySem.W.Frag} (e : obsZ fa fn tp K = He.valD fn) : SaysZ fa fn tp K := by
  have e1 : ((tp.all fun p => He.tupB K p.1 p.2) && ((fa.all fun f => f.ok K) && fn.all fun d => d.ok K)) = true := congrArg (fun z : He.AlD => z.1) e
  have e2 : (fn.map fun d => He.fnW K d.at_) = fn.map He.DefD.val := congrArg (fun z : He.AlD => z.2) e
  rw [Bool.and_eq_true] at e1
  exact ⟨show (_, _) = (_, _) by rw [e1.2, e2], e1.1⟩
def hookZ (n : Nat) (fa : List He.Fa) (fn : List He.DefD) (tp : Tups) : PySem.W.Hook where
  α := He.AlD
  obs := fun s => obsZ fa fn tp (He.frG s.heap.get? (He.asD s.heap.get? n))
  val := fun _ => He.valD fn
  says := fun _ h => ∃ K : PySem.W.Frag, K.In h ∧ SaysZ fa fn tp K
  of := fun _ _ e => ⟨_, He.frG_in, saysZ_of e⟩
  keeps := fun _ _ _ ⟨K, hK, c⟩ k => ⟨K, PySem.W.Frag.In.keeps hK k, c⟩
theorem obsZ_eq {n : Nat} {fa : List He.Fa} {fn : List He.DefD} {tp : Tups} {g : Addr → Option Obj} {s : Shared} (h : ∀ a, g a = s.heap.get? a) : obsZ fa fn tp (He.frG g (He.asD g n)) = (hookZ n fa fn tp).obs s := by
  have e : g = s.heap.get? := funext h
  rw [e]; rfl
theorem SaysZ.tup {fa : List He.Fa} {fn : List He.DefD} {tp : Tups} {K : PySem.W.Frag} (c : SaysZ fa fn tp K) {x : Str} {ss : List Str} (h : (x, ss.map He.Dv.str) ∈ tp) : KTup K (He.ga K x) ss := by
  have q := He.tupB_ok (List.all_eq_true.mp c.t _ h) (fun _ => none)
  rcases q with (z | ⟨o, z⟩) | z
  · exact nomatch z
  · exact nomatch z
  · rw [List.map_map] at z
    exact z
theorem mk_has {P : Program} {wd : World} {K : PySem.W.Frag} {mg : Str → Option Value} {base : Heap} {k : Nat} {f : Addr} {fd : FuncData} {ps N : List Str} {sp : DSp} {u : WS} {x y qual : Str} {params : Arguments} {body : List Stmt} {scope : Scope} {dvs : List V} {kws : List (Str × V)}
    (F : FunD K x qual params body scope dvs kws f fd) (hm : mg y = some (.ref f)) (hb : Binds K fd ps []) (S : FnScope N ps scope) (len : ∀ ds ah q x, sp ds ah q x → ds.length = ps.length)
    (hbody : ∀ (cdv : Value) (A : Around) (outer : List Env) (s : Shared) (H : Hp) (E : XK), RoomG k (A.deeper (envOfC qual scope s.heap.objs.size f cdv)) → DSs (cxOf (L2.CX P wd) P wd K mg base N qual scope f cdv A outer s H E) body u)
    (hsp : ∀ ds ah q x, sp ds ah q x → u (startD N.length ds) ah { nx := fun _ ah' => q .non ah', rt := q } (fun e _ ah' => x e ah')) : Has P wd K mg base y (k + 1) ps sp :=
  ⟨f, fd, hm, F.kp, hb, dfn_of F S len hbody hsp⟩
end Z
namespace Z
open PySem
/-! digits, plainly -/
def vl (b : Nat) (l : List Nat) : Nat := l.foldl (fun a d => a * b + d) 0
def ds (b n : Nat) : List Nat := if h : n = 0 ∨ b < 2 then [] else ds b (n / b) ++ [n % b]
termination_by n
decreasing_by exact Nat.div_lt_self (by omega) (by omega)
theorem ds_zero (b : Nat) : ds b 0 = [] := by rw [ds]; simp
theorem ds_pos {b n : Nat} (hb : 2 ≤ b) (hn : 0 < n) : ds b n = ds b (n / b) ++ [n % b] := by
  rw [ds, dif_neg (by omega)]
theorem vl_from (b : Nat) : ∀ (l : List Nat) (a : Nat), l.foldl (fun a d => a * b + d) a = a * b ^ l.length + vl b l
  | [], a => by simp [vl]
  | d :: l, a => by
    have h1 := vl_from b l (a * b + d)
    have h2 := vl_from b l (0 * b + d)
    unfold vl
    rw [List.foldl_cons, List.foldl_cons, h1, h2, List.length_cons, Nat.pow_succ, Nat.add_mul, Nat.add_mul]
    have : a * b * b ^ l.length = a * (b ^ l.length * b) := by rw [Nat.mul_assoc, Nat.mul_comm b]
    rw [this]; omega
theorem vl_nil (b : Nat) : vl b [] = 0 := rfl
theorem vl_cons (b d : Nat) (l : List Nat) : vl b (d :: l) = d * b ^ l.length + vl b l := by
  have h := vl_from b l (0 * b + d)
  unfold vl at *
  rw [List.foldl_cons, h]; simp
theorem vl_append (b : Nat) (l m : List Nat) : vl b (l ++ m) = vl b l * b ^ m.length + vl b m := by
  have h := vl_from b m (vl b l)
  unfold vl at *
  rw [List.foldl_append, h]
theorem vl_snoc (b : Nat) (l : List Nat) (d : Nat) : vl b (l ++ [d]) = vl b l * b + d := by
  rw [vl_append]; simp [vl]
theorem vl_lt {b : Nat} : ∀ {l : List Nat}, (∀ d ∈ l, d < b) → vl b l < b ^ l.length
  | [], _ => by simp [vl]
  | d :: l, h => by
    rw [vl_cons, List.length_cons, Nat.pow_succ]
    have h1 := h d (by simp)
    have h2 := vl_lt (l := l) fun x hx => h x (List.mem_cons_of_mem _ hx)
    have h3 : (d + 1) * b ^ l.length ≤ b * b ^ l.length := Nat.mul_le_mul_right _ h1
    rw [Nat.add_mul] at h3
    rw [Nat.mul_comm (b ^ l.length) b]; omega
theorem vl_ds {b : Nat} (hb : 2 ≤ b) : ∀ n : Nat, vl b (ds b n) = n := by
  intro n
  induction n using Nat.strongRecOn with
  | _ n ih =>
    by_cases hn : n = 0
    · subst hn; rw [ds_zero]; rfl
    · rw [ds_pos hb (by omega), vl_snoc, ih (n / b) (Nat.div_lt_self (by omega) (by omega))]
      exact Nat.div_add_mod' n b
theorem ds_lt {b : Nat} (hb : 2 ≤ b) : ∀ n : Nat, ∀ d ∈ ds b n, d < b := by
  intro n
  induction n using Nat.strongRecOn with
  | _ n ih =>
    by_cases hn : n = 0
    · subst hn; rw [ds_zero]; simp
    · rw [ds_pos hb (by omega)]
      intro d hd
      rcases List.mem_append.mp hd with h | h
      · exact ih _ (Nat.div_lt_self (by omega) (by omega)) d h
      · rw [List.mem_singleton.mp h]; exact Nat.mod_lt _ (by omega)
theorem ds_nil {b n : Nat} (hb : 2 ≤ b) (h : ds b n = []) : n = 0 := by
  have := vl_ds hb n
  rw [h] at this; exact this.symm
theorem ds_vl {b : Nat} (hb : 2 ≤ b) : ∀ (l : List Nat), (∀ d ∈ l, d < b) → (∀ h t, l = h :: t → h ≠ 0) → ds b (vl b l) = l := by
  intro l
  generalize hk : l.length = k
  induction k generalizing l with
  | zero => intro _ _; rw [List.eq_nil_of_length_eq_zero hk]; exact ds_zero b
  | succ k ih =>
    intro h1 h2
    rcases List.eq_nil_or_concat l with e | ⟨m, d, e⟩
    · rw [e] at hk; simp at hk
    · rw [List.concat_eq_append] at e
      subst e
      have hm : ∀ x ∈ m, x < b := fun x hx => h1 x (List.mem_append_left _ hx)
      have hd : d < b := h1 d (by simp)
      have hl : m.length = k := by simp at hk; exact hk
      have i := ih m hl hm (fun h t e => h2 h (t ++ [d]) (by rw [e]; rfl))
      rw [vl_snoc]
      have e1 : (vl b m * b + d) / b = vl b m := by
        rw [Nat.mul_comm, Nat.mul_add_div (by omega), Nat.div_eq_of_lt hd, Nat.add_zero]
      have e2 : (vl b m * b + d) % b = d := by
        rw [Nat.mul_comm, Nat.mul_add_mod, Nat.mod_eq_of_lt hd]
      have pos : 0 < vl b m * b + d := by
        cases m with
        | nil =>
          have := h2 d [] rfl
          simp [vl]; omega
        | cons y ys =>
          have hy := h2 y (ys ++ [d]) rfl
          have : 0 < vl b (y :: ys) := by
            rw [vl_cons]
            have : 0 < y * b ^ ys.length := Nat.mul_pos (by omega) (Nat.pow_pos (by omega))
            omega
          have : 0 < vl b (y :: ys) * b := Nat.mul_pos this (by omega)
          omega
      rw [ds_pos hb pos, e1, e2, i]
theorem ds_head {b n : Nat} (hb : 2 ≤ b) : ∀ h t, ds b n = h :: t → h ≠ 0 := by
  induction n using Nat.strongRecOn with
  | _ n ih =>
    intro h t e
    by_cases hn : n = 0
    · subst hn; rw [ds_zero] at e; cases e
    · rw [ds_pos hb (by omega)] at e
      cases hq : ds b (n / b) with
      | nil =>
        rw [hq] at e
        cases e
        have h0 := ds_nil hb hq
        intro z
        have := Nat.div_add_mod' n b
        rw [h0, z] at this
        omega
      | cons y ys =>
        rw [hq, List.cons_append] at e
        have e' := (List.cons.inj e).1
        rw [← e']
        exact ih (n / b) (Nat.div_lt_self (by omega) (by omega)) y ys hq
theorem vl_split {b : Nat} (hb : 2 ≤ b) {l m : List Nat} (hm : ∀ d ∈ m, d < b) : vl b (l ++ m) / b ^ m.length = vl b l ∧ vl b (l ++ m) % b ^ m.length = vl b m := by
  have p : 0 < b ^ m.length := Nat.pow_pos (by omega)
  rw [vl_append, Nat.mul_comm]
  exact ⟨by rw [Nat.mul_add_div p, Nat.div_eq_of_lt (vl_lt hm), Nat.add_zero], by rw [Nat.mul_add_mod, Nat.mod_eq_of_lt (vl_lt hm)]⟩
theorem ds_len {b n : Nat} (hb : 2 ≤ b) : n < b ^ (ds b n).length := by
  have := vl_lt (ds_lt hb n)
  rwa [vl_ds hb] at this
/-- same length: the order of the signs is the order of the values -/
theorem lex_iff {b : Nat} (hb : 2 ≤ b) : ∀ {l m : List Nat}, l.length = m.length → (∀ d ∈ l, d < b) → (∀ d ∈ m, d < b) → (l.map (48 + ·) < m.map (48 + ·) ↔ vl b l < vl b m)
  | [], [], _, _, _ => by simp [vl]
  | x :: l, y :: m, h, h1, h2 => by
    have hl : l.length = m.length := by simpa using h
    have l1 : ∀ d ∈ l, d < b := fun d hd => h1 d (List.mem_cons_of_mem _ hd)
    have l2 : ∀ d ∈ m, d < b := fun d hd => h2 d (List.mem_cons_of_mem _ hd)
    have ih := lex_iff hb hl l1 l2
    have b1 := vl_lt l1
    have b2 := vl_lt l2
    rw [vl_cons, vl_cons, hl, List.map_cons, List.map_cons, List.cons_lt_cons_iff]
    rw [hl] at b1
    rcases Nat.lt_trichotomy x y with c | c | c
    · have : (x + 1) * b ^ m.length ≤ y * b ^ m.length := Nat.mul_le_mul_right _ c
      rw [Nat.add_mul] at this
      constructor
      · intro _; omega
      · intro _; left; omega
    · subst c
      constructor
      · rintro (z | ⟨_, z⟩)
        · omega
        · have := ih.mp z; omega
      · intro z; right; exact ⟨rfl, ih.mpr (by omega)⟩
    · have : (y + 1) * b ^ m.length ≤ x * b ^ m.length := Nat.mul_le_mul_right _ c
      rw [Nat.add_mul] at this
      constructor
      · rintro (z | ⟨z, _⟩) <;> omega
      · intro z; omega
/-! digits as a text -/
def dg (l : List Nat) : Str := ⟨(l.map (48 + ·)).toArray⟩
theorem dg_len (l : List Nat) : (dg l).length = l.length := by simp [dg, Str.length]
theorem dg_cps (l : List Nat) : (dg l).cps.toList = l.map (48 + ·) := by simp [dg]
theorem str_ext {a b : Str} (h : a.cps.toList = b.cps.toList) : a = b := by
  obtain ⟨⟨x⟩⟩ := a; obtain ⟨⟨y⟩⟩ := b; cases h; rfl
theorem dg_append (l m : List Nat) : dg l ++ dg m = dg (l ++ m) := by
  apply str_ext
  show ((dg l).cps ++ (dg m).cps).toList = _
  rw [Array.toList_append, dg_cps, dg_cps, dg_cps, List.map_append]
theorem dg_inj {l m : List Nat} (h : dg l = dg m) : l = m := by
  have := congrArg (fun s : Str => s.cps.toList) h
  simp only [dg_cps] at this
  exact (List.map_inj_right (fun a b e => by omega)).mp this
end Z
namespace Z
open PySem PySem.Spec PyProof.Rows L2
/-- all that is there stays -/
def Ext (ah ah' : AH) : Prop := ∀ (m : Nat) (o : O), ah[m]? = some o → ah'[m]? = some o
theorem Ext.refl {ah : AH} : Ext ah ah := fun _ _ h => h
theorem Ext.trans {a b c : AH} (h : Ext a b) (k : Ext b c) : Ext a c := fun m o e => k m o (h m o e)
theorem Ext.push {ah : AH} (l : AH) : Ext ah (ah ++ l) := fun m o e => by
  rw [List.getElem?_append_left (List.getElem?_eq_some_iff.mp e).1]; exact e
theorem get_push (ah : AH) (o : O) : (ah ++ [o])[ah.length]? = some o := by simp
def among (d : D) (lo hi : Int) : Bool := match d with
  | .int i => decide (lo ≤ i) && decide (i ≤ hi)
  | _ => false
def isNum (d : D) : Bool := match d with
  | .int i => decide (1 ≤ i)
  | _ => false
/-! ### is_among, is_number -/
def sp_is_among : DSp := fun ds ah q _ => ∃ d lo hi, ds = [d, .int lo, .int hi] ∧ (tyD ah d).isSome = true ∧ q (.bl (among d lo hi)) ah
def w_is_among : WS := (wRet ((wAndV (wCal gIsi (wCons (wVar 0) (wCons (wC (.ty "int")) wNil))) (wAndV (wNotV (wCal gIsi (wCons (wVar 0) (wCons (wC (.ty "bool")) wNil)))) (wChain fLe fLe (wVar 1) (wVar 0) (wVar 2))))))
theorem isTy_iff (t T : String) : isTy t T = (t == T || (t == "bool" && T == "int")) := rfl
theorem gIsi_of {d : D} {T t : String} {ah : AH} {q : QE} (h : tyD ah d = some t) (hT : T ∈ tyNames) (hq : q (.bl (isTy t T)) ah) : gIsi [d, .ty T] ah q := by
  unfold gIsi
  dsimp only
  rw [h]
  exact ⟨hT, hq⟩
theorem ty_not {ah : AH} {d : D} {t : String} (h : tyD ah d = some t) (hn : ∀ i, d ≠ .int i) (hb : ∀ i, d ≠ .bl i) : isTy t "int" = false := by
  cases d with
  | int i => exact (hn i rfl).elim
  | bl i => exact (hb i rfl).elim
  | ref n =>
    simp only [tyD] at h
    split at h <;> (try cases h) <;> decide
  | _ => first | (cases h; decide) | (simp only [tyD] at h; cases h)
theorem wp_is_among (ds : List D) (ah : AH) (q : QE) (x : QX) (h : sp_is_among ds ah q x) : w_is_among (startD 3 ds) ah { nx := fun _ ah' => q .non ah', rt := q } (fun e _ ah' => x e ah') := by
  obtain ⟨d, lo, hi, rfl, ht, hq⟩ := h
  show w_is_among [some d, some (.int lo), some (.int hi)] ah _ _
  obtain ⟨t, ht⟩ := Option.isSome_iff_exists.mp ht
  unfold w_is_among
  simp only [wRet, wAndV, wCal, wCons, wVar, wC, wNil, gt]
  refine gIsi_of ht (by decide) ?_
  by_cases h1 : ∃ i, d = .int i
  · obtain ⟨i, rfl⟩ := h1
    cases ht
    show (wNotV _ _ _ _ _ : Prop)
    simp only [wNotV, wCal, wCons, wVar, wC, wNil, gt]
    refine gIsi_of (t := "int") rfl (by decide) ?_
    show (wChain _ _ _ _ _ _ _ _ _ : Prop)
    simp only [wChain, wVar, gt, fLe]
    unfold among at hq
    by_cases c : lo ≤ i
    · simp only [decide_eq_true c]
      simpa [c] using hq
    · simp only [decide_eq_false c]
      simpa [c] using hq
  · by_cases h2 : ∃ i, d = .bl i
    · obtain ⟨i, rfl⟩ := h2
      cases ht
      show (wNotV _ _ _ _ _ : Prop)
      simp only [wNotV, wCal, wCons, wVar, wC, wNil, gt]
      refine gIsi_of (t := "bool") rfl (by decide) ?_
      exact hq
    · rw [ty_not ht (fun i e => h1 ⟨i, e⟩) (fun i e => h2 ⟨i, e⟩)]
      have : among d lo hi = false := by
        unfold among
        split
        · exact (h1 ⟨_, rfl⟩).elim
        · rfl
      rw [this] at hq
      exact hq
def sp_is_number : DSp := fun ds ah q _ => ∃ d, ds = [d] ∧ (tyD ah d).isSome = true ∧ q (.bl (isNum d)) ah
def w_is_number : WS := (wRet ((wAndV (wCal gIsi (wCons (wVar 0) (wCons (wC (.ty "int")) wNil))) (wAndV (wNotV (wCal gIsi (wCons (wVar 0) (wCons (wC (.ty "bool")) wNil)))) (wBin fGe (wVar 0) (wC (.int 1)))))))
theorem wp_is_number (ds : List D) (ah : AH) (q : QE) (x : QX) (h : sp_is_number ds ah q x) : w_is_number (startD 1 ds) ah { nx := fun _ ah' => q .non ah', rt := q } (fun e _ ah' => x e ah') := by
  obtain ⟨d, rfl, ht, hq⟩ := h
  show w_is_number [some d] ah _ _
  obtain ⟨t, ht⟩ := Option.isSome_iff_exists.mp ht
  unfold w_is_number
  simp only [wRet, wAndV, wCal, wCons, wVar, wC, wNil, gt]
  refine gIsi_of ht (by decide) ?_
  by_cases h1 : ∃ i, d = .int i
  · obtain ⟨i, rfl⟩ := h1
    cases ht
    show (wNotV _ _ _ _ _ : Prop)
    simp only [wNotV, wCal, wCons, wVar, wC, wNil, gt]
    refine gIsi_of (t := "int") rfl (by decide) ?_
    exact hq
  · by_cases h2 : ∃ i, d = .bl i
    · obtain ⟨i, rfl⟩ := h2
      cases ht
      show (wNotV _ _ _ _ _ : Prop)
      simp only [wNotV, wCal, wCons, wVar, wC, wNil, gt]
      refine gIsi_of (t := "bool") rfl (by decide) ?_
      exact hq
    · rw [ty_not ht (fun i e => h1 ⟨i, e⟩) (fun i e => h2 ⟨i, e⟩)]
      have : isNum d = false := by
        unfold isNum
        split
        · exact (h1 ⟨_, rfl⟩).elim
        · rfl
      rw [this] at hq
      exact hq
/-! ### need_base, need_number, need_reader: what they let through -/
def sp_need_base : DSp := fun ds ah q _ => ∃ d, ds = [d] ∧ (tyD ah d).isSome = true ∧ among d 2 10 = true ∧ q .non ah
def w_need_base : WS := (wIf (wNot (wTst (wCall sp_is_among [] (wCons (wVar 0) (wCons (wC (.int 2)) (wCons (wC (.int 10)) wNil)))))) (wNever) wNext)
theorem wp_need_base (ds : List D) (ah : AH) (q : QE) (x : QX) (h : sp_need_base ds ah q x) : w_need_base (startD 1 ds) ah { nx := fun _ ah' => q .non ah', rt := q } (fun e _ ah' => x e ah') := by
  obtain ⟨d, rfl, ht, h1, hq⟩ := h
  refine ⟨d, 2, 10, rfl, ht, ?_⟩
  rw [h1]
  exact hq
def sp_need_number : DSp := fun ds ah q _ => ∃ d, ds = [d] ∧ (tyD ah d).isSome = true ∧ isNum d = true ∧ q .non ah
def w_need_number : WS := (wIf (wNot (wTst (wCall sp_is_number [] (wCons (wVar 0) wNil)))) (wNever) wNext)
theorem wp_need_number (ds : List D) (ah : AH) (q : QE) (x : QX) (h : sp_need_number ds ah q x) : w_need_number (startD 1 ds) ah { nx := fun _ ah' => q .non ah', rt := q } (fun e _ ah' => x e ah') := by
  obtain ⟨d, rfl, ht, h1, hq⟩ := h
  refine ⟨d, rfl, ht, ?_⟩
  rw [h1]
  exact hq
def isReader (z : Str) : Prop := z = "replace" ∨ z = "next"
def sp_need_reader : DSp := fun ds ah q _ => ∃ z, ds = [.str z] ∧ isReader z ∧ q .non ah
def w_need_reader : WS := (wIf ((wOr (wNot (wTst (wCal gIsi (wCons (wVar 0) (wCons (wC (.ty "str")) wNil))))) (wTst (wBin (fIn true) (wVar 0) (wC (.tup ((["replace", "next"] : List Str).map D.str))))))) (wNever) wNext)
theorem wp_need_reader (ds : List D) (ah : AH) (q : QE) (x : QX) (h : sp_need_reader ds ah q x) : w_need_reader (startD 1 ds) ah { nx := fun _ ah' => q .non ah', rt := q } (fun e _ ah' => x e ah') := by
  obtain ⟨d, rfl, h1, hq⟩ := h
  show w_need_reader [some (.str d)] ah _ _
  unfold w_need_reader
  simp only [wIf, wOr, wNot, wTst, wCal, wCons, wVar, wC, wNil, gt]
  refine gIsi_of (t := "str") rfl (by decide) ?_
  refine ⟨rfl, rfl, ?_⟩
  rcases h1 with rfl | rfl
  · exact hq
  · exact hq
/-! ### power -/
def sp_power : DSp := fun ds ah q _ => ∃ b m : Nat, ds = [.int b, .int m] ∧ b < 2 ^ 64 ∧ m < 2 ^ 62 ∧ q (.int ((b ^ m : Nat) : Int)) ah
def w_power : WS := (wSeq (wAsg (wC (.int 1)) (gN 2)) (wSeq (wFor (wRng1 (wCons (wVar 1) wNil)) (gN 3) (wAsg (wBin fMul (wVar 2) (wVar 0)) (gN 2))) (wRet (wVar 2))))
def sp__law_power : DSp := sp_power
def w__law_power : WS := (wSeq (wAsg (wC (.int 1)) (gN 2)) (wSeq (wFor (wRng1 (wCons (wVar 1) wNil)) (gN 3) (wAsg (wBin fMul (wVar 2) (wVar 0)) (gN 2))) (wRet (wVar 2))))
theorem mul_small {i j : Int} (h : -(2 ^ 64) < j ∧ j < 2 ^ 64) : MulOk i j := .inl (.inr h)
theorem rangeD_succ (n : Nat) : rangeD 0 (n + 1) = rangeD 0 n ++ [.int n] := by
  unfold rangeD
  rw [List.range_succ, List.map_append]
  simp

theorem pow_loop {g : Nat} : ∀ (m : Nat) (l : List D) (b a : Nat) (o : Option D) (ah : AH) (dn : DEnds) (x : QXS), l.length = m → b < 2 ^ 64 → (∀ o, dn.nx [some (.int b), some (.int g), some (.int ((a * b ^ m : Nat) : Int)), o] ah) →
    forGo (fun _ => True) (gN 3) (wAsg (wBin fMul (wVar 2) (wVar 0)) (gN 2)) dn x l [some (.int b), some (.int g), some (.int a), o] ah
  | 0, [], b, a, o, ah, dn, x, _, hb, h => ⟨trivial, by simpa using h o⟩
  | m + 1, d :: l, b, a, o, ah, dn, x, hl, hb, h => by
    refine ⟨trivial, mul_small ⟨by omega, by omega⟩, ?_⟩
    have := pow_loop (g := g) m l b (a * b) (some d) ah dn x (by simpa using hl) hb (fun o => by
      have := h o
      rw [Nat.pow_succ, Nat.mul_comm _ b, ← Nat.mul_assoc] at this
      exact this)
    rw [Int.natCast_mul] at this
    exact this
theorem rangeD_len (i : Int) (n : Nat) : (rangeD i n).length = n := by simp [rangeD]
theorem wp_power (ds : List D) (ah : AH) (q : QE) (x : QX) (h : sp_power ds ah q x) : w_power (startD 4 ds) ah { nx := fun _ ah' => q .non ah', rt := q } (fun e _ ah' => x e ah') := by
  obtain ⟨b, m, rfl, hb, hm, hq⟩ := h
  show w_power [some (.int b), some (.int m), none, none] ah _ _
  refine ⟨by omega, by omega, ?_⟩
  exact pow_loop m _ b 1 none ah _ _ (by rw [rangeD_len]; simp) hb (fun o => by rw [Nat.one_mul]; exact hq)
theorem wp__law_power (ds : List D) (ah : AH) (q : QE) (x : QX) (h : sp__law_power ds ah q x) : w__law_power (startD 4 ds) ah { nx := fun _ ah' => q .non ah', rt := q } (fun e _ ah' => x e ah') := wp_power ds ah q x h
/-! ### are_digits, value_of, length_of -/
def isDs (b : Nat) (l : List Nat) : Prop := l ≠ [] ∧ ∀ d ∈ l, d < b
def sp_are_digits : DSp := fun ds ah q _ => ∃ (b : Nat) (l : List Nat), ds = [.int b, .str (dg l)] ∧ 2 ≤ b ∧ b ≤ 10 ∧ isDs b l ∧ l.length < sizeLine ∧ ∀ ah', Ext ah ah' → q (.bl true) ah'
def w_are_digits : WS := (wRet ((wAndV (wCal gIsi (wCons (wVar 1) (wCons (wC (.ty "str")) wNil))) (wAndV (wBin (fEq true) (wVar 1) (wC (.str ""))) (wCal gAll (wCons (wLc [2] (wIter (wVar 1)) (gN 2) wYes (wBin (fIn false) (wVar 2) (wSl (wC (.str "0123456789")) wNoPart (wPart (wVar 0))))) wNil))))))
theorem figs : ("0123456789" : Str) = dg [0, 1, 2, 3, 4, 5, 6, 7, 8, 9] := by decide +kernel
theorem dg_ne {l : List Nat} (h : l ≠ []) : dg l ≠ ("" : Str) := fun e => h (dg_inj (l := l) (m := []) (by rw [e]; decide +kernel))
theorem signs_dg (l : List Nat) : signs (dg l) = l.map fun d => D.str (dg [d]) := by
  unfold signs
  rw [dg_cps, List.map_map]
  rfl
theorem cut_figs {b : Nat} (hb : b ≤ 10) : cutS (dg [0, 1, 2, 3, 4, 5, 6, 7, 8, 9]) none (some (b : Int)) = dg (List.range b) := by
  have h : ∀ b : Nat, b ≤ 10 → cutS (dg [0, 1, 2, 3, 4, 5, 6, 7, 8, 9]) none (some (b : Int)) = dg (List.range b) := by decide +kernel
  exact h b hb

theorem mem_figs {b d : Nat} (h : d < b) : (48 + d) ∈ (dg (List.range b)).cps.toList := by
  rw [dg_cps]
  exact List.mem_map.mpr ⟨d, List.mem_range.mpr h, rfl⟩
theorem figs_len : ("0123456789" : Str).length ≤ sizeLine := by decide +kernel
theorem digs_loop {b : Nat} {t : D} {q : QE} (hb : b ≤ 10) : ∀ (l : List Nat) (acc : List D) (ah : AH), (∀ d ∈ l, d < b) → acc.length + l.length < sizeLine → newL (acc ++ List.replicate l.length (.bl true)) ah q →
    lcGo (fun _ => True) (gN 2) wYes (wBin (fIn false) (wVar 2) (wSl (wC (.str "0123456789")) wNoPart (wPart (wVar 0)))) [some (.int b), some t, none] q (l.map fun d => D.str (dg [d])) acc ah
  | [], acc, ah, _, _, h => ⟨trivial, by simpa using h⟩
  | d :: l, acc, ah, h1, h2, h => by
    have hl : acc.length < sizeLine := by simp at h2; omega
    have ih := digs_loop (t := t) (q := q) hb l (acc ++ [.bl true]) ah (fun x hx => h1 x (List.mem_cons_of_mem _ hx)) (by simp at h2 ⊢; omega) (by
      rw [List.append_assoc]; exact h)
    refine ⟨trivial, hl, figs_len, 48 + d, rfl, ?_⟩
    rw [figs, cut_figs hb, decide_eq_true (mem_figs (h1 d (by simp)))]
    exact ih
theorem all_rep (n : Nat) : List.replicate n (D.bl true) = (List.replicate n true).map D.bl := by simp
theorem wp_are_digits (ds : List D) (ah : AH) (q : QE) (x : QX) (h : sp_are_digits ds ah q x) : w_are_digits (startD 3 ds) ah { nx := fun _ ah' => q .non ah', rt := q } (fun e _ ah' => x e ah') := by
  obtain ⟨b, l, rfl, h2, hb, hl, hs, hq⟩ := h
  show w_are_digits [some (.int b), some (.str (dg l)), none] ah _ _
  unfold w_are_digits
  simp only [wRet, wAndV, wCal, wCons, wVar, wC, wNil, gt]
  refine gIsi_of (t := "str") rfl (by decide) ?_
  rw [show isTy "str" "str" = true from by decide]
  simp only [wBin, wVar, wC, gt, fEq]
  rw [decide_eq_false (dg_ne hl.1)]
  show (wLc _ _ _ _ _ _ _ _ _ : Prop)
  simp only [wLc, wIter, wVar, gt, fIter, signs_dg]
  refine digs_loop hb l [] ah hl.2 (by simpa using hs) ?_
  simp only [newL, gAll, get_push, List.nil_append]
  refine ⟨_, all_rep _, ?_⟩
  have : (List.replicate l.length true).all id = true := by simp
  rw [this]
  exact hq _ (Ext.push _)
def sp_value_of : DSp := fun ds ah q _ => ∃ (b : Nat) (l : List Nat), ds = [.int b, .str (dg l)] ∧ 2 ≤ b ∧ b ≤ 10 ∧ (∀ d ∈ l, d < 10) ∧ q (.int (vl b l : Nat)) ah
def w_value_of : WS := (wSeq (wAsg (wC (.int 0)) (gN 2)) (wSeq (wFor (wIter (wVar 1)) (gN 3) (wAsg (wBin fAdd (wBin fMul (wVar 2) (wVar 0)) (wMet isStr fSIndex (wC (.str "0123456789")) (wCons (wVar 3) wNil))) (gN 2))) (wRet (wVar 2))))
theorem index_figs {d : Nat} (h : d < 10) : Builtin.Str.occurrences ("0123456789" : Str) (dg [d]) 0 ("0123456789" : Str).length 1 = [d] := by
  have h0 : ∀ d : Nat, d < 10 → Builtin.Str.occurrences ("0123456789" : Str) (dg [d]) 0 ("0123456789" : Str).length 1 = [d] := by decide +kernel
  exact h0 d h
theorem val_loop {b : Nat} {t : D} (hb : b ≤ 10) : ∀ (l : List Nat) (a : Nat) (o : Option D) (ah : AH) (dn : DEnds) (x : QXS), (∀ d ∈ l, d < 10) → (∀ o, dn.nx [some (.int b), some t, some (.int ((l.foldl (fun a d => a * b + d) a : Nat) : Int)), o] ah) →
    forGo (fun _ => True) (gN 3) (wAsg (wBin fAdd (wBin fMul (wVar 2) (wVar 0)) (wMet isStr fSIndex (wC (.str "0123456789")) (wCons (wVar 3) wNil))) (gN 2)) dn x (l.map fun d => D.str (dg [d])) [some (.int b), some t, some (.int a), o] ah
  | [], a, o, ah, dn, x, _, h => ⟨trivial, h o⟩
  | d :: l, a, o, ah, dn, x, h1, h => by
    have ih := val_loop (t := t) hb l (a * b + d) (some (.str (dg [d]))) ah dn x (fun y hy => h1 y (List.mem_cons_of_mem _ hy)) h
    rw [Int.natCast_add, Int.natCast_mul] at ih
    exact ⟨trivial, mul_small ⟨by omega, by omega⟩, trivial, d, [], index_figs (h1 d (by simp)), ih⟩
theorem wp_value_of (ds : List D) (ah : AH) (q : QE) (x : QX) (h : sp_value_of ds ah q x) : w_value_of (startD 4 ds) ah { nx := fun _ ah' => q .non ah', rt := q } (fun e _ ah' => x e ah') := by
  obtain ⟨b, l, rfl, h2, hb, hl, hq⟩ := h
  show w_value_of [some (.int b), some (.str (dg l)), none, none] ah _ _
  unfold w_value_of
  simp only [wSeq, wAsg, wC, gN, st, wFor, wIter, wVar, gt, fIter, signs_dg]
  exact val_loop hb l 0 none ah _ _ hl fun _ => hq
def sp__law_value : DSp := sp_value_of
def w__law_value : WS := (wSeq (wAsg (wC (.int 0)) (gN 2)) (wSeq (wFor (wIter (wVar 1)) (gN 3) (wAsg (wBin fAdd (wBin fMul (wVar 2) (wVar 0)) (wMet isStr fSIndex (wC (.str "0123456789")) (wCons (wVar 3) wNil))) (gN 2))) (wRet (wVar 2))))
theorem wp__law_value (ds : List D) (ah : AH) (q : QE) (x : QX) (h : sp__law_value ds ah q x) : w__law_value (startD 4 ds) ah { nx := fun _ ah' => q .non ah', rt := q } (fun e _ ah' => x e ah') := wp_value_of ds ah q x h
def sp_length_of : DSp := fun ds ah q _ => ∃ b n : Nat, ds = [.int b, .int n] ∧ 2 ≤ b ∧ b ≤ 10 ∧ q (.int ((Z.ds b n).length : Nat)) ah
def w_length_of : WS := (wSeq (wAsg (wC (.int 0)) (gN 2)) (wSeq (wWhile (wTst (wBin fGt (wVar 1) (wC (.int 0)))) (wSeq (wAsg (wBin fDiv (wVar 1) (wVar 0)) (gN 1)) (wAug 2 fIAdd (wC (.int 1))))) (wRet (wVar 2))))
theorem div_small {i : Int} {b : Nat} (h2 : 2 ≤ b) (hb : b ≤ 10) : CDivW i b := ⟨by omega, by
  rw [Int.natAbs_natCast]
  have : b.log2 < 4 := (Nat.log2_lt (by omega)).mpr (by omega)
  omega⟩
theorem wp_length_of (ds : List D) (ah : AH) (q : QE) (x : QX) (h : sp_length_of ds ah q x) : w_length_of (startD 3 ds) ah { nx := fun _ ah' => q .non ah', rt := q } (fun e _ ah' => x e ah') := by
  obtain ⟨b, n, rfl, h2, hb, hq⟩ := h
  show w_length_of [some (.int b), some (.int n), none] ah _ _
  unfold w_length_of
  simp only [wSeq, wAsg, wC, gN, st]
  refine ⟨fun m env ah' => ah' = ah ∧ ∃ f : Nat, env = [some (.int b), some (.int m), some (.int f)] ∧ f + (Z.ds b m).length = (Z.ds b n).length, ⟨n, rfl, 0, rfl, by simp⟩, ?_⟩
  rintro m env ah' ⟨rfl, f, rfl, hf⟩
  simp only [wTst, wBin, wVar, wC, gt, fGt]
  by_cases hm : 0 < m
  · rw [decide_eq_true (by omega : (0 : Int) < m)]
    refine ⟨div_small h2 hb, m / b, Nat.div_lt_self hm h2, rfl, f + 1, ?_, ?_⟩
    · simp [Int.natCast_ediv, st]
    · rw [ds_pos h2 hm] at hf
      simp at hf
      omega
  · rw [decide_eq_false (by omega : ¬ (0 : Int) < m)]
    have : m = 0 := by omega
    subst this
    rw [ds_zero] at hf
    have e : f = (Z.ds b n).length := by simpa using hf
    subst e
    exact hq
end Z
namespace Z
open PySem PySem.Spec PyProof.Rows L2
theorem ite_t {p r : Prop} (h : p) : if true = true then p else r := by rw [if_pos rfl]; exact h
theorem ite_f {p r : Prop} (h : r) : if false = true then p else r := by rw [if_neg (by decide)]; exact h
def sp_is_tail : DSp := fun ds ah q _ => ∃ (b : Nat) (l : List Nat), ds = [.int b, .str (dg l)] ∧ 2 ≤ b ∧ b ≤ 10 ∧ isDs b l ∧ l.length ≤ 1000 ∧ ∀ ah', Ext ah ah' → q (.bl true) ah'
def w_is_tail : WS := (wRet ((wAndV (wCall sp_are_digits [] (wCons (wVar 0) (wCons (wVar 1) wNil))) (wBin fLe (wCal gLen (wCons (wVar 1) wNil)) (wC (.int 1000))))))
theorem size_line {n : Nat} (h : n ≤ 16777216) : n ≤ sizeLine := h
theorem wp_is_tail (ds : List D) (ah : AH) (q : QE) (x : QX) (h : sp_is_tail ds ah q x) : w_is_tail (startD 2 ds) ah { nx := fun _ ah' => q .non ah', rt := q } (fun e _ ah' => x e ah') := by
  obtain ⟨b, l, rfl, h2, hb, hl, hs, hq⟩ := h
  refine ⟨b, l, rfl, h2, hb, hl, Nat.lt_of_le_of_lt hs (by decide), fun ah' he => ?_⟩
  refine ⟨size_line (by rw [dg_len]; omega), ?_⟩
  show q (.bl (decide (((dg l).length : Int) ≤ 1000))) ah'
  rw [dg_len, decide_eq_true (by omega)]
  exact hq _ he
/-! ### completed_in -/
/-- where the next reader goes -/
def nextV (b n : Nat) (l : List Nat) : Nat := let f := n / b ^ l.length * b ^ l.length + vl b l; if n < f then f else f + b ^ l.length
def replF (b n : Nat) (l : List Nat) : Nat := if (Z.ds b n).length ≤ l.length then (if l.head? = some 0 then 0 else vl b l) else n / b ^ l.length * b ^ l.length + vl b l
def replD (b n : Nat) (l : List Nat) : D := if n < replF b n l then .int (replF b n l : Nat) else .non
def complD (z : Str) (b n : Nat) (l : List Nat) : D := if z = "next" then .int (nextV b n l : Nat) else replD b n l
structure Args4 (ds : List D) (z : Str) (b n : Nat) (l : List Nat) : Prop where
  eq : ds = [.str z, .int b, .int n, .str (dg l)]
  rd : isReader z
  b2 : 2 ≤ b
  b10 : b ≤ 10
  n1 : 1 ≤ n
  nn : n < 2 ^ 2000
  l0 : isDs b l
  len : l.length ≤ 1000
def sp_completed_in : DSp := fun ds ah q _ => ∃ z b n l, Args4 ds z b n l ∧ q (complD z b n l) ah
def w_completed_in : WS := (wSeq (wPar 4 5 (wCons (wCall sp_power [] (wCons (wVar 1) (wCons (wCal gLen (wCons (wVar 3) wNil)) wNil))) (wCons (wCall sp_value_of [] (wCons (wVar 1) (wCons (wVar 3) wNil))) wNil))) (wSeq (wAsg (wBin fAdd (wBin fMul (wBin fDiv (wVar 2) (wVar 4)) (wVar 4)) (wVar 5)) (gN 6)) (wSeq (wIf (wTst (wBin (fEq false) (wVar 0) (wC (.str "next")))) (wRet (wIfE (wTst (wBin fGt (wVar 6) (wVar 2))) (wVar 6) (wBin fAdd (wVar 6) (wVar 4)))) wNext) (wSeq (wIf (wTst (wBin fGe (wCal gLen (wCons (wVar 3) wNil)) (wCall sp_length_of [] (wCons (wVar 1) (wCons (wVar 2) wNil))))) (wAsg (wIfE (wTst (wBin (fEq true) (wBin fAt (wVar 3) (wC (.int 0))) (wC (.str "0")))) (wVar 5) (wC (.int 0))) (gN 6)) wNext) (wRet (wIfE (wTst (wBin fGt (wVar 6) (wVar 2))) (wVar 6) (wC .non)))))))
theorem log2_pow_le {b m : Nat} (hb : b ≤ 10) (h2 : 2 ≤ b) (hm : m ≤ 1000) : (b ^ m).log2 < 4001 := by
  have h1 : b ^ m ≤ 16 ^ 1000 := Nat.le_trans (Nat.pow_le_pow_left (by omega) m) (Nat.pow_le_pow_right (by omega) hm)
  have h3 : (16 : Nat) ^ 1000 < 2 ^ 4001 := by decide +kernel
  exact (Nat.log2_lt (Nat.ne_of_gt (Nat.pow_pos (by omega)))).mpr (by omega)
theorem log2_le_of {n : Nat} (h : n < 2 ^ 2000) : n.log2 < 2001 := by
  by_cases hn : n = 0
  · subst hn; decide
  · exact (Nat.log2_lt hn).mpr (Nat.lt_of_lt_of_le h (Nat.pow_le_pow_right (by omega) (by omega)))
theorem div_pow {i : Int} {b m : Nat} (hb : b ≤ 10) (h2 : 2 ≤ b) (hm : m ≤ 1000) : CDivW i ((b ^ m : Nat) : Int) :=
  ⟨by have := Nat.pow_pos (n := m) (show 0 < b by omega); omega, by rw [Int.natAbs_natCast]; have := log2_pow_le hb h2 hm; omega⟩
theorem mul_pow {b m n : Nat} (hb : b ≤ 10) (h2 : 2 ≤ b) (hm : m ≤ 1000) (hn : n < 2 ^ 2000) : MulOk ((n / b ^ m : Nat) : Int) ((b ^ m : Nat) : Int) := by
  refine .inr ?_
  show _ + _ < _
  rw [Int.natAbs_natCast, Int.natAbs_natCast]
  have := log2_pow_le hb h2 hm
  have := log2_le_of (n := n / b ^ m) (Nat.lt_of_le_of_lt (Nat.div_le_self _ _) hn)
  omega
theorem head_dg {l : List Nat} (h : l ≠ []) : ∃ d t, l = d :: t := by
  cases l with
  | nil => exact (h rfl).elim
  | cons d t => exact ⟨d, t, rfl⟩
theorem at_zero (d : Nat) (t : List Nat) : atI (dg (d :: t)).cps.toList 0 = some (48 + d) := by
  rw [dg_cps]
  unfold atI ixN
  simp
theorem zero_sign (d : Nat) : ((⟨#[48 + d]⟩ : Str) = "0") ↔ d = 0 := by
  rw [show ("0" : Str) = ⟨#[48]⟩ from by decide +kernel]
  simp
theorem wp_completed_in (ds : List D) (ah : AH) (q : QE) (x : QX) (h : sp_completed_in ds ah q x) : w_completed_in (startD 7 ds) ah { nx := fun _ ah' => q .non ah', rt := q } (fun e _ ah' => x e ah') := by
  obtain ⟨z, b, n, l, ⟨rfl, rd, h2, hb, n1, nn, hl, hm⟩, hq⟩ := h
  show w_completed_in [some (.str z), some (.int b), some (.int n), some (.str (dg l)), none, none, none] ah _ _
  have hL : (dg l).length ≤ sizeLine := size_line (by rw [dg_len]; omega)
  unfold w_completed_in
  simp only [wSeq, wPar, wCons, wCall, wVar, gt, wCal, gLen, wNil]
  refine ⟨hL, b, l.length, by rw [dg_len]; rfl, by omega, by omega, b, l, rfl, h2, hb, fun d hd => Nat.lt_of_lt_of_le (hl.2 d hd) hb, ?_⟩
  simp only [wAsg, wBin, wVar, gt, st, gN, fDiv, fMul, fAdd]
  refine ⟨div_pow hb h2 hm, mul_pow hb h2 hm nn, ?_⟩
  rw [← Int.natCast_ediv, ← Int.natCast_mul, ← Int.natCast_add]
  generalize hf : n / b ^ l.length * b ^ l.length + vl b l = f
  simp only [wIf, wTst, wBin, wVar, wC, gt, fEq]
  by_cases hz : z = "next"
  · rw [decide_eq_true hz]
    have hq' : q (.int (nextV b n l : Nat)) ah := by
      unfold complD at hq
      rw [if_pos hz] at hq
      exact hq
    unfold nextV at hq'
    simp only [hf] at hq'
    refine ite_t ?_
    simp only [wRet, wIfE, wTst, wBin, wVar, gt, fGt, fAdd]
    by_cases c : n < f
    · rw [decide_eq_true (by omega : (n : Int) < f), if_pos rfl]
      rw [if_pos c] at hq'
      exact hq'
    · rw [decide_eq_false (by omega : ¬ (n : Int) < f)]
      rw [if_neg c] at hq'
      exact hq'
  · rw [decide_eq_false hz]
    have hq' : q (replD b n l) ah := by
      unfold complD at hq
      rw [if_neg hz] at hq
      exact hq
    refine ite_f ?_
    simp only [wNext, wIf, wTst, wBin, wVar, wCal, wCons, wNil, gLen, wC, gt, wCall]
    refine ⟨hL, b, n, rfl, h2, hb, ?_⟩
    simp only [fGe, dg_len]
    have last : ∀ g : Nat, replF b n l = g → (wRet (wIfE (wTst (wBin fGt (wVar 6) (wVar 2))) (wVar 6) (wC .non))) [some (.str z), some (.int b), some (.int n), some (.str (dg l)), some (.int ((b ^ l.length : Nat) : Int)), some (.int (vl b l : Nat)), some (.int g)] ah { nx := fun _ ah' => q .non ah', rt := q } (fun e _ ah' => x e ah') := by
      intro g hg
      unfold replD at hq'
      rw [hg] at hq'
      simp only [wRet, wIfE, wTst, wBin, wVar, gt, fGt, wC]
      by_cases c : n < g
      · rw [decide_eq_true (by omega : (n : Int) < g)]
        rw [if_pos c] at hq'
        exact hq'
      · rw [decide_eq_false (by omega : ¬ (n : Int) < g)]
        rw [if_neg c] at hq'
        exact hq'
    by_cases c : (Z.ds b n).length ≤ l.length
    · rw [decide_eq_true (by omega)]
      obtain ⟨d, t, rfl⟩ := head_dg hl.1
      refine ite_t ?_
      simp only [wAsg, wIfE, wTst, wBin, wVar, wC, gt, fAt, fIx, at_zero]
      refine ⟨hL, ?_⟩
      simp only [fEq]
      by_cases d0 : d = 0
      · rw [decide_eq_true ((zero_sign d).mpr d0)]
        exact last 0 (by unfold replF; rw [if_pos c]; subst d0; rfl)
      · rw [decide_eq_false (fun e => d0 ((zero_sign d).mp e))]
        exact last (vl b (d :: t)) (by unfold replF; rw [if_pos c, if_neg (by simp [d0])])
    · rw [decide_eq_false (by omega)]
      exact last f (by unfold replF; rw [if_neg c, hf])
def sp_completed : DSp := fun ds ah q _ => ∃ z b n l, Args4 ds z b n l ∧ ∀ ah', Ext ah ah' → q (complD z b n l) ah'
def w_completed : WS := (wSeq (wExpr (wCall sp_need_reader [] (wCons (wVar 0) wNil))) (wSeq (wExpr (wCall sp_need_base [] (wCons (wVar 1) wNil))) (wSeq (wExpr (wCall sp_need_number [] (wCons (wVar 2) wNil))) (wSeq (wIf (wNot (wTst (wCall sp_is_tail [] (wCons (wVar 1) (wCons (wVar 3) wNil))))) (wNever) wNext) (wRet (wCall sp_completed_in [] (wCons (wVar 0) (wCons (wVar 1) (wCons (wVar 2) (wCons (wVar 3) wNil))))))))))
theorem wp_completed (ds : List D) (ah : AH) (q : QE) (x : QX) (h : sp_completed ds ah q x) : w_completed (startD 4 ds) ah { nx := fun _ ah' => q .non ah', rt := q } (fun e _ ah' => x e ah') := by
  obtain ⟨z, b, n, l, A, hq⟩ := h
  obtain ⟨rfl, rd, h2, hb, n1, nn, hl, hm⟩ := A
  refine ⟨z, rfl, rd, .int b, rfl, rfl, ?_, .int n, rfl, rfl, ?_, b, l, rfl, h2, hb, hl, hm, fun ah' he => ?_⟩
  · unfold among
    simp only [Bool.and_eq_true, decide_eq_true_eq]
    omega
  · unfold isNum
    simp only [decide_eq_true_eq]
    omega
  · exact ⟨z, b, n, l, ⟨rfl, rd, h2, hb, n1, nn, hl, hm⟩, hq ah' he⟩
/-! ### the law's own digits -/
def sp__law_digits : DSp := fun ds ah q _ => ∃ b n : Nat, ds = [.int b, .int n] ∧ 2 ≤ b ∧ b ≤ 10 ∧ (Z.ds b n).length ≤ 10000 ∧ q (.str (dg (Z.ds b n))) ah
def w__law_digits : WS := (wSeq (wAsg (wC (.str "")) (gN 2)) (wSeq (wWhile (wTst (wBin fGt (wVar 1) (wC (.int 0)))) (wSeq (wAsg (wBin fAdd (wBin fAt (wC (.str "0123456789")) (wBin fMod (wCal gInt (wCons (wVar 1) wNil)) (wVar 0))) (wVar 2)) (gN 2)) (wAsg (wBin fDiv (wVar 1) (wVar 0)) (gN 1)))) (wRet (wVar 2))))
theorem at_figs {d : Nat} (h : d < 10) : atI ("0123456789" : Str).cps.toList (d : Int) = some (48 + d) := by
  have h0 : ∀ d : Nat, d < 10 → atI ("0123456789" : Str).cps.toList (d : Int) = some (48 + d) := by decide +kernel
  exact h0 d h
theorem wp__law_digits (ds : List D) (ah : AH) (q : QE) (x : QX) (h : sp__law_digits ds ah q x) : w__law_digits (startD 3 ds) ah { nx := fun _ ah' => q .non ah', rt := q } (fun e _ ah' => x e ah') := by
  obtain ⟨b, n, rfl, h2, hb, hn, hq⟩ := h
  show w__law_digits [some (.int b), some (.int n), none] ah _ _
  unfold w__law_digits
  simp only [wSeq, wAsg, wC, gN, st]
  refine ⟨fun m env ah' => ah' = ah ∧ ∃ f : List Nat, env = [some (.int b), some (.int m), some (.str (dg f))] ∧ Z.ds b m ++ f = Z.ds b n, ⟨n, rfl, [], by rw [show ("" : Str) = dg [] from by decide +kernel], by simp⟩, ?_⟩
  rintro m env ah' ⟨rfl, f, rfl, hf⟩
  simp only [wTst, wBin, wVar, wC, gt, fGt]
  by_cases hm : 0 < m
  · rw [decide_eq_true (by omega : (0 : Int) < m)]
    rw [ds_pos h2 hm, List.append_assoc] at hf
    have hlt : m % b < 10 := Nat.lt_of_lt_of_le (Nat.mod_lt _ (by omega)) hb
    have hlen := congrArg List.length hf
    simp only [List.length_append, List.length_singleton] at hlen
    refine ite_t ?_
    simp only [wSeq, wAsg, wBin, wVar, wC, gt, wCal, wCons, wNil, gInt, fMod, fAt, fIx, gN, st, fDiv]
    refine ⟨by omega, figs_len, ?_⟩
    rw [← Int.natCast_emod, at_figs hlt]
    simp only [fAdd]
    refine ⟨?_, div_small h2 hb, m / b, Nat.div_lt_self hm h2, trivial, [m % b] ++ f, ?_, hf⟩
    · show (dg [m % b]).length + (dg f).length ≤ sizeLine
      rw [dg_len, dg_len]
      exact size_line (by simp; omega)
    · rw [← dg_append]
      rfl
  · rw [decide_eq_false (by omega : ¬ (0 : Int) < m)]
    have : m = 0 := by omega
    subst this
    rw [ds_zero] at hf
    have e : f = Z.ds b n := by simpa using hf
    subst e
    exact hq
end Z
namespace Z
open PySem PySem.Spec PyProof.Rows L2
/-! ### the law's chance -/
def stD (c l a : D) : List (Key × D) := [(.inr "cells", c), (.inr "lefts", l), (.inr "at", a)]
theorem kn1 : (decide ((Sum.inr ("cells" : Str) : Key) = Sum.inr ("lefts" : Str))) = false := by decide +kernel
theorem kn2 : (decide ((Sum.inr ("cells" : Str) : Key) = Sum.inr ("at" : Str))) = false := by decide +kernel
theorem kn3 : (decide ((Sum.inr ("lefts" : Str) : Key) = Sum.inr ("at" : Str))) = false := by decide +kernel
theorem val_cells {c l a : D} : valD (stD c l a) (.inr "cells") = some c := by
  simp [valD, stD, List.find?]
theorem val_lefts {c l a : D} : valD (stD c l a) (.inr "lefts") = some l := by
  simp only [valD, stD, List.find?, kn1, decide_true, Option.map_some]
theorem val_at {c l a : D} : valD (stD c l a) (.inr "at") = some a := by
  simp only [valD, stD, List.find?, kn2, kn3, decide_true, Option.map_some]
theorem put_at {c l a a' : D} : putD (stD c l a) (.inr "at") a' = stD c l a' := by
  have h2 := of_decide_eq_false kn2
  have h3 := of_decide_eq_false kn3
  simp [putD, stD, h2, h3]
theorem made {c l a : D} : ([(Sum.inr "cells", c), (Sum.inr "lefts", l), (Sum.inr "at", a)] : List (Key × D)).foldl (fun acc kv => putD acc kv.1 kv.2) [] = stD c l a := by
  have h1 := of_decide_eq_false kn1
  have h2 := of_decide_eq_false kn2
  have h3 := of_decide_eq_false kn3
  simp [putD, stD, h1, h2, h3]
structure SI (a : Nat) (ah : AH) : Prop where
  ex : ∃ cs ls : List Int, ah[1]? = some (.lst (cs.map D.int)) ∧ ah[2]? = some (.lst (ls.map D.int)) ∧ ah[3]? = some (.dct (stD (.ref 1) (.ref 2) (.int a))) ∧ cs.length = ls.length ∧ 0 < cs.length
/-- all behind the state stays -/
def Fm (ah ah' : AH) : Prop := ∀ (m : Nat) (o : O), 4 ≤ m → ah[m]? = some o → ah'[m]? = some o
theorem Fm.refl {ah : AH} : Fm ah ah := fun _ _ _ h => h
theorem Fm.trans {a b c : AH} (h : Fm a b) (k : Fm b c) : Fm a c := fun m o l e => k m o l (h m o l e)
theorem Ext.fm {ah ah' : AH} (h : Ext ah ah') : Fm ah ah' := fun m o _ e => h m o e
theorem SI.ext {a : Nat} {ah ah' : AH} (h : SI a ah) (e : Ext ah ah') : SI a ah' := by
  obtain ⟨cs, ls, h1, h2, h3, r⟩ := h.ex
  exact ⟨cs, ls, e _ _ h1, e _ _ h2, e _ _ h3, r⟩
theorem SI.len {a : Nat} {ah : AH} (h : SI a ah) : 4 ≤ ah.length := by
  obtain ⟨cs, ls, h1, h2, h3, r⟩ := h.ex
  exact (List.getElem?_eq_some_iff.mp h3).1
theorem Fm.set {ah : AH} {n : Nat} {o : O} (h : n < 4) : Fm ah (ah.set n o) := fun m o' hm e => by
  rw [List.getElem?_set_ne (by omega)]; exact e
theorem atI_nat {α : Type} {l : List α} {i : Nat} : atI l (i : Int) = l[i]? := by
  unfold atI ixN
  rw [if_pos (by omega)]
  by_cases h : i < l.length
  · rw [if_pos (by omega)]; simp
  · rw [if_neg (by omega), List.getElem?_eq_none (by omega)]; rfl
theorem ixN_nat {n i : Nat} (h : i < n) : ixN n (i : Int) = some i := by
  unfold ixN
  rw [if_pos (by omega), if_pos (by omega)]; simp
def sp__law_mixed : DSp := fun ds ah q _ => ∃ (c : Int) (k : Nat), ds = [.int c, .int k] ∧ k < 2 ^ 60 ∧ ∀ r : Nat, r < 2147483647 → q (.int r) ah
def w__law_mixed : WS := (wSeq (wAsg (wBin fMod (wCal gInt (wCons (wVar 0) wNil)) (wC (.int 2147483647))) (gN 0)) (wRet (wBin fMod (wBin fMul (wBin fMod (wBin fAdd (wBin fAdd (wBin fMul (wVar 0) (wBin fAdd (wC (.int 48271)) (wBin fMul (wBin fMul (wC (.int 2)) (wVar 1)) (wVar 1)))) (wBin fMul (wC (.int 69621)) (wVar 1))) (wC (.int 11))) (wC (.int 2147483647))) (wC (.int 69621))) (wC (.int 2147483629)))))
theorem wp__law_mixed (ds : List D) (ah : AH) (q : QE) (x : QX) (h : sp__law_mixed ds ah q x) : w__law_mixed (startD 2 ds) ah { nx := fun _ ah' => q .non ah', rt := q } (fun e _ ah' => x e ah') := by
  obtain ⟨c, k, rfl, hk, hq⟩ := h
  show w__law_mixed [some (.int c), some (.int k)] ah _ _
  refine ⟨by decide, ?_⟩
  simp only [wRet, wBin, wVar, wC, gt, st, fAdd, fMul, fMod]
  have p1 : 0 ≤ c % 2147483647 := Int.emod_nonneg _ (by decide)
  have p2 : c % 2147483647 < 2147483647 := Int.emod_lt_of_pos _ (by decide)
  refine ⟨.inl (.inl ⟨by decide, by decide⟩), mul_small ⟨by omega, by omega⟩, .inl (.inl ⟨by omega, by omega⟩), .inl (.inl ⟨by decide, by decide⟩), by decide, mul_small ⟨by decide, by decide⟩, by decide, ?_⟩
  generalize ((c % 2147483647 * (48271 + 2 * (k : Int) * k) + 69621 * k + 11) % 2147483647 * 69621) = y
  have q1 : 0 ≤ y % 2147483629 := Int.emod_nonneg _ (by decide)
  have q2 : y % 2147483629 < 2147483629 := Int.emod_lt_of_pos _ (by decide)
  have := hq (y % 2147483629).toNat (by omega)
  rw [Int.toNat_of_nonneg q1] at this
  exact this
def sp__law_begin : DSp := fun ds ah q _ => ∃ ns : List Int, ds = [.frl (ns.map D.int)] ∧ ns.length ≤ 1000 ∧ ah = [] ∧ ∀ ah', SI 0 ah' → q (.ref 3) ah'
def w__law_begin : WS := (wSeq (wAsg (wIfE (wTst (wBin (fEq true) (wVar 0) (wLst wNil))) (wCal gList (wCons (wVar 0) wNil)) (wLst (wCons (wC (.int 0)) wNil))) (gN 1)) (wRet (wDict (wdCons (wC (.str "cells")) (wVar 1) (wdCons (wC (.str "lefts")) (wLc [2] (wIter (wVar 1)) (gN 2) wYes (wIfE (wTst (wBin fGe (wVar 2) (wBin fPow (wC (.int 10)) (wC (.int 18))))) (wVar 2) (wC (.int 0)))) (wdCons (wC (.str "at")) (wC (.int 0)) wdNil))))))
theorem lefts_loop {s : D} {q : QE} : ∀ (ns : List Int) (ms : List Int) (cs : D) (ah : AH) (l0 : List D), ah[1]? = some (.lst l0) → ms.length + ns.length ≤ 1000 → (∀ ls : List Int, ls.length = ms.length + ns.length → newL (ls.map D.int) ah q) →
    lcGo (fun ah' => ah'[1]? = some (.lst l0)) (gN 2) wYes (wIfE (wTst (wBin fGe (wVar 2) (wBin fPow (wC (.int 10)) (wC (.int 18))))) (wVar 2) (wC (.int 0))) [some s, some cs, none] q (ns.map D.int) (ms.map D.int) ah
  | [], ms, cs, ah, l0, h0, hl, h => ⟨h0, h ms (by simp)⟩
  | n :: ns, ms, cs, ah, l0, h0, hl, h => by
    simp only [List.length_cons] at hl h
    refine ⟨h0, by rw [List.length_map]; exact show _ < 16777216 by omega, ⟨by decide, by decide, by decide⟩, ?_⟩
    have ih : ∀ m : Int, lcGo (fun ah' => ah'[1]? = some (.lst l0)) (gN 2) wYes (wIfE (wTst (wBin fGe (wVar 2) (wBin fPow (wC (.int 10)) (wC (.int 18))))) (wVar 2) (wC (.int 0))) [some s, some cs, none] q (ns.map D.int) (ms.map D.int ++ [.int m]) ah := fun m => by
      have := lefts_loop (s := s) (q := q) ns (ms ++ [m]) cs ah l0 h0 (by simp; omega) (fun ls e => h ls (by simp at e; omega))
      rw [List.map_append] at this
      exact this
    show (if (decide ((10 : Int) ^ (18 : Int).toNat ≤ n)) = true then _ else _ : Prop)
    split
    · exact ih n
    · exact ih 0
theorem pds_ints (f : Nat) (ah : AH) : ∀ ns : List Int, pds (pd f ah) (ns.map D.int) = some (ns.map PyData.int)
  | [] => rfl
  | n :: ns => by
    rw [List.map_cons]
    unfold pds
    rw [pds_ints f ah ns]
    cases f <;> rfl
theorem canLay_ints : ∀ ns : List Int, PyData.canLay0 (.list (ns.map PyData.int)) = true := fun ns => by
  show PyData.canLayAll0 _ = true
  induction ns with
  | nil => rfl
  | cons n ns ih => show (true && PyData.canLayAll0 _) = true; rw [ih]; rfl
theorem depth_ints : ∀ ns : List Int, PyData.depthAll (ns.map PyData.int) = 0
  | [] => rfl
  | n :: ns => by show max 0 (PyData.depthAll _) = 0; rw [depth_ints ns]; rfl
theorem wp__law_begin (ds : List D) (ah : AH) (q : QE) (x : QX) (h : sp__law_begin ds ah q x) : w__law_begin (startD 3 ds) ah { nx := fun _ ah' => q .non ah', rt := q } (fun e _ ah' => x e ah') := by
  obtain ⟨ns, rfl, hl, rfl, hq⟩ := h
  show w__law_begin [some (.frl (ns.map D.int)), none, none] [] _ _
  unfold w__law_begin
  simp only [wSeq, wAsg, wIfE, wTst, wBin, wVar, gt, wLst, wNil, newL, fEq]
  refine ⟨by decide, ?_⟩
  have key : ∀ cs : List Int, 0 < cs.length → cs.length ≤ 1000 → (wRet (wDict (wdCons (wC (.str "cells")) (wVar 1) (wdCons (wC (.str "lefts")) (wLc [2] (wIter (wVar 1)) (gN 2) wYes (wIfE (wTst (wBin fGe (wVar 2) (wBin fPow (wC (.int 10)) (wC (.int 18))))) (wVar 2) (wC (.int 0)))) (wdCons (wC (.str "at")) (wC (.int 0)) wdNil)))))
      [some (.frl (ns.map D.int)), some (.ref 1), none] [.lst [], .lst (cs.map D.int)] { nx := fun _ ah' => q .non ah', rt := q } (fun e _ ah' => x e ah') := by
    intro cs h0 h1
    simp only [wRet, wDict, wdCons, wC, wVar, gt, wLc, wIter, fIter, List.getElem?_cons_succ, List.getElem?_cons_zero, nos, no]
    refine lefts_loop cs [] _ _ _ rfl (by simpa using h1) fun ls e => ?_
    simp only [List.length_nil, Nat.zero_add] at e
    refine ⟨show 3 ≤ 15 by decide, ?_⟩
    show q (.ref 3) _
    refine hq _ ⟨cs, ls, rfl, rfl, ?_, e.symm, h0⟩
    show some (O.dct _) = some (O.dct _)
    rw [made]
    rfl
  refine ⟨.list (ns.map PyData.int), .list [], ?_, rfl, ?_, by decide, ?_⟩
  · show (pds (pd 19 _) (ns.map D.int)).map PyData.list = _
    rw [pds_ints]; rfl
  · unfold SeqAt.shaped
    rw [Bool.and_eq_true]
    refine ⟨canLay_ints ns, decide_eq_true ?_⟩
    show PyData.depthAll _ + 1 ≤ 64
    rw [depth_ints]; decide
  · cases ns with
    | nil =>
      refine ite_f ?_
      simp only [wLst, wCons, wC, wNil, newL, gN, st]
      exact ⟨by decide, key [0] (by decide) (by decide)⟩
    | cons n ns =>
      refine ite_t ?_
      simp only [wCal, wCons, wVar, gt, wNil, gList, newL, gN, st]
      exact key (n :: ns) (by simp) hl
def sp__law_draw : DSp := fun ds ah q _ => ∃ many a : Nat, ds = [.ref 3, .int many] ∧ 0 < many ∧ many < 2 ^ 64 ∧ SI a ah ∧ a < 2 ^ 50 ∧ ∀ (r : Nat) (ah' : AH), r < many → SI (a + 1) ah' → Fm ah ah' → q (.int r) ah'
def w__law_draw : WS := (wSeq (wAsg (wBin fAt (wVar 0) (wC (.str "at"))) (gN 2)) (wSeq (wPut (wBin fAdd (wVar 2) (wC (.int 1))) (wVar 0) (wC (.str "at"))) (wSeq (wAsg (wBin fMod (wCal gInt (wCons (wVar 2) wNil)) (wCal gLen (wCons (wBin fAt (wVar 0) (wC (.str "cells"))) wNil))) (gN 3)) (wSeq (wAsg (wBin fAt (wBin fAt (wVar 0) (wC (.str "lefts"))) (wVar 3)) (gN 4)) (wSeq (wIf (wTst (wBin fGt (wVar 4) (wC (.int 0)))) (wSeq (wPut (wBin fDiv (wVar 4) (wVar 1)) (wBin fAt (wVar 0) (wC (.str "lefts"))) (wVar 3)) (wRet (wBin fMod (wCal gInt (wCons (wVar 4) wNil)) (wVar 1)))) wNext) (wSeq (wAsg (wCall sp__law_mixed [] (wCons (wCall sp__law_mixed [] (wCons (wBin fAt (wBin fAt (wVar 0) (wC (.str "cells"))) (wVar 3)) (wCons (wVar 2) wNil))) (wCons (wBin fAdd (wC (.int 40)) (wVar 2)) wNil))) (gN 5)) (wRet (wBin fMod (wBin fDiv (wCal gInt (wCons (wBin fAdd (wBin fMul (wVar 5) (wC (.int 2147483647))) (wCall sp__law_mixed [] (wCons (wVar 5) (wCons (wBin fAdd (wC (.int 7)) (wVar 2)) wNil)))) wNil)) (wC (.int 64))) (wVar 1)))))))))
theorem wp__law_draw (ds : List D) (ah : AH) (q : QE) (x : QX) (h : sp__law_draw ds ah q x) : w__law_draw (startD 6 ds) ah { nx := fun _ ah' => q .non ah', rt := q } (fun e _ ah' => x e ah') := by
  obtain ⟨many, a, rfl, h0, h1, hs, ha, hq⟩ := h
  obtain ⟨cs, ls, e1, e2, e3, el, ec⟩ := hs.ex
  show w__law_draw [some (.ref 3), some (.int many), none, none, none, none] ah _ _
  have hd : CDivW 0 many := ⟨by omega, by
    rw [Int.natAbs_natCast]
    have : many.log2 < 64 := (Nat.log2_lt (by omega)).mpr h1
    omega⟩
  unfold w__law_draw
  simp only [wSeq, wAsg, wBin, wVar, wC, gt, st, gN, fAt, e3, val_at, wPut, fAdd, fPut, put_at]
  refine ⟨show 3 < 16777216 by decide, ?_⟩
  generalize hah : ah.set 3 (O.dct (stD (D.ref 1) (D.ref 2) (D.int (↑a + 1)))) = ah1
  have f1 : Fm ah ah1 := by subst hah; exact Fm.set (by decide)
  have l3 : 3 < ah.length := (List.getElem?_eq_some_iff.mp e3).1
  have g1 : ah1[1]? = some (.lst (cs.map D.int)) := by subst hah; rw [List.getElem?_set_ne (by decide)]; exact e1
  have g2 : ah1[2]? = some (.lst (ls.map D.int)) := by subst hah; rw [List.getElem?_set_ne (by decide)]; exact e2
  have g3 : ah1[3]? = some (.dct (stD (.ref 1) (.ref 2) (.int ((a + 1 : Nat) : Int)))) := by subst hah; rw [List.getElem?_set_self l3]; simp
  simp only [wCal, wCons, wNil, wVar, gt, st, gInt, wBin, wC, fAt, g3, val_cells, gLen, g1, fMod, List.length_map]
  refine ⟨by omega, ?_⟩
  rw [← Int.natCast_emod]
  generalize hp : a % cs.length = p
  have hpl : p < cs.length := by subst hp; exact Nat.mod_lt _ ec
  simp only [g3, val_lefts, fIx, g2, atI_nat, List.getElem?_map]
  rw [List.getElem?_eq_getElem (by omega : p < ls.length)]
  simp only [Option.map_some]
  generalize hle : ls[p] = lf
  simp only [wIf, wTst, wBin, wVar, wC, gt, fGt]
  by_cases c : 0 < lf
  · rw [decide_eq_true c]
    refine ite_t ?_
    simp only [wSeq, wPut, wBin, wVar, wC, gt, fDiv, fAt, g3, val_lefts, fPut, g2, List.length_map]
    refine ⟨hd, ?_⟩
    rw [ixN_nat (by omega)]
    simp only [wRet, wBin, wCal, wCons, wNil, wVar, gt, gInt, fMod]
    refine ⟨by omega, ?_⟩
    have q1 : 0 ≤ lf % many := Int.emod_nonneg _ (by omega)
    have q2 : lf % many < many := Int.emod_lt_of_pos _ (by omega)
    have := hq (lf % many).toNat (ah1.set 2 (O.lst ((ls.map D.int).set p (.int (lf / many))))) (by omega) ⟨cs, ls.set p (lf / many), by rw [List.getElem?_set_ne (by decide)]; exact g1, by rw [List.getElem?_set_self (List.getElem?_eq_some_iff.mp g2).1, List.map_set], by rw [List.getElem?_set_ne (by decide)]; exact g3, by simp [el], ec⟩ (f1.trans (Fm.set (by decide)))
    rw [Int.toNat_of_nonneg q1] at this
    exact this
  · rw [decide_eq_false c]
    refine ite_f ?_
    simp only [wNext, wAsg, wCall, wCons, wNil, wBin, wVar, wC, gt, st, gN, fAt, g3, val_cells, fIx, g1, atI_nat, List.getElem?_map]
    rw [List.getElem?_eq_getElem hpl]
    simp only [Option.map_some, fAdd]
    refine ⟨cs[p], a, rfl, by omega, fun r1 hr1 => ⟨r1, 40 + a, by simp, by omega, fun r2 hr2 => ?_⟩⟩
    simp only [wRet, wBin, wCal, wCons, wNil, wVar, wC, gt, st, wCall, fMul, fAdd]
    refine ⟨mul_small ⟨by decide, by decide⟩, r2, 7 + a, by simp, by omega, fun r3 hr3 => ?_⟩
    simp only [gInt, fDiv, fMod]
    refine ⟨⟨by decide, by decide⟩, by omega, ?_⟩
    generalize ((r2 : Int) * 2147483647 + r3) / 64 = y
    have q1 : 0 ≤ y % many := Int.emod_nonneg _ (by omega)
    have q2 : y % many < many := Int.emod_lt_of_pos _ (by omega)
    have := hq (y % many).toNat ah1 (by omega) ⟨cs, ls, g1, g2, g3, el, ec⟩ f1
    rw [Int.toNat_of_nonneg q1] at this
    exact this
end Z
namespace Z
open PySem PySem.Spec PyProof.Rows L2
/-! ### the law's own completion -/
def sp__law_completed : DSp := fun ds ah q _ => ∃ z b n l, Args4 ds z b n l ∧ (Z.ds b n).length ≤ 10000 ∧ q (complD z b n l) ah
def w__law_completed : WS := (wSeq (wPar 4 5 (wCons (wCall sp__law_value [] (wCons (wVar 1) (wCons (wVar 3) wNil))) (wCons (wCall sp__law_power [] (wCons (wVar 1) (wCons (wCal gLen (wCons (wVar 3) wNil)) wNil))) wNil))) (wSeq (wIf (wTst (wBin (fEq false) (wVar 0) (wC (.str "next")))) (wRet (wBin fAdd (wBin fAdd (wVar 2) (wC (.int 1))) (wBin fMod (wCal gInt (wCons (wBin fSub (wBin fSub (wVar 4) (wVar 2)) (wC (.int 1))) wNil)) (wVar 5)))) wNext) (wSeq (wAsg (wCall sp__law_digits [] (wCons (wVar 1) (wCons (wVar 2) wNil))) (gN 6)) (wSeq (wIf (wTst (wBin fGt (wCal gLen (wCons (wVar 6) wNil)) (wCal gLen (wCons (wVar 3) wNil)))) (wAsg (wCall sp__law_value [] (wCons (wVar 1) (wCons (wBin fAdd (wSl (wVar 6) wNoPart (wPart (wBin fSub (wCal gLen (wCons (wVar 6) wNil)) (wCal gLen (wCons (wVar 3) wNil))))) (wVar 3)) wNil))) (gN 4)) (wIf (wTst (wBin (fEq false) (wBin fAt (wVar 3) (wC (.int 0))) (wC (.str "0")))) (wRet (wC .non)) wNext)) (wRet (wIfE (wTst (wBin fGt (wVar 4) (wVar 2))) (wVar 4) (wC .non)))))))
theorem next_mod {n v s : Nat} (hv : v < s) : (n : Int) + 1 + ((v : Int) - n - 1) % s = ((if n < n / s * s + v then n / s * s + v else n / s * s + v + s : Nat) : Int) := by
  have hn := Nat.div_add_mod' n s
  have hr := Nat.mod_lt n (show 0 < s by omega)
  have hnz : (n : Int) = (n / s : Nat) * (s : Int) + (n % s : Nat) := by
    rw [← Int.natCast_mul, ← Int.natCast_add, hn]
  generalize n / s = k at *
  generalize n % s = r at *
  have e : ((v : Int) - n - 1) = ((v : Int) - r - 1) + s * (-k) := by
    rw [hnz, Int.mul_neg, Int.mul_comm (s : Int)]; omega
  rw [e, Int.add_mul_emod_self_left]
  split
  · rename_i c
    rw [Int.emod_eq_of_lt (by omega) (by omega)]
    rw [Int.natCast_add, Int.natCast_mul]; omega
  · rename_i c
    have e2 : ((v : Int) - r - 1) = ((v : Int) - r - 1 + s) + s * (-1) := by omega
    rw [e2, Int.add_mul_emod_self_left, Int.emod_eq_of_lt (by omega) (by omega)]
    rw [Int.natCast_add, Int.natCast_add, Int.natCast_mul]; omega

theorem cut_take (l : List Nat) (k : Nat) : cutS (dg l) none (some (k : Int)) = dg (l.take k) := by
  apply str_ext
  unfold cutS
  rw [HT.sIx_none, HT.sIx_nat, dg_len, dg_cps, dg_cps, List.map_take]
  simp only [List.drop_zero, Nat.sub_zero]
  rw [← List.length_map (f := fun x => 48 + x) (as := l), List.take_eq_take_iff]
  simp
theorem cut_drop (l : List Nat) (k : Nat) : cutS (dg l) (some (k : Int)) none = dg (l.drop k) := by
  apply str_ext
  unfold cutS
  rw [HT.sIx_none, HT.sIx_nat, dg_len, dg_cps, dg_cps, List.map_drop]
  by_cases h : k ≤ l.length
  · rw [Nat.min_eq_left h]
    exact List.take_of_length_le (by simp)
  · rw [Nat.min_eq_right (by omega), Nat.sub_self, List.take_zero, List.drop_eq_nil_of_le (by simp; omega)]
theorem ds_take {b n m : Nat} (hb : 2 ≤ b) (hm : m ≤ (Z.ds b n).length) : vl b ((Z.ds b n).take ((Z.ds b n).length - m)) = n / b ^ m ∧ vl b ((Z.ds b n).drop ((Z.ds b n).length - m)) = n % b ^ m := by
  have h := vl_split hb (l := (Z.ds b n).take ((Z.ds b n).length - m)) (m := (Z.ds b n).drop ((Z.ds b n).length - m)) (fun d hd => ds_lt hb n d (List.mem_of_mem_drop hd))
  rw [List.take_append_drop, vl_ds hb, List.length_drop] at h
  rw [show (Z.ds b n).length - ((Z.ds b n).length - m) = m by omega] at h
  exact ⟨h.1.symm, h.2.symm⟩
theorem wp__law_completed (ds : List D) (ah : AH) (q : QE) (x : QX) (h : sp__law_completed ds ah q x) : w__law_completed (startD 7 ds) ah { nx := fun _ ah' => q .non ah', rt := q } (fun e _ ah' => x e ah') := by
  obtain ⟨z, b, n, l, ⟨rfl, rd, h2, hb, n1, nn, hl, hm⟩, hlen, hq⟩ := h
  show w__law_completed [some (.str z), some (.int b), some (.int n), some (.str (dg l)), none, none, none] ah _ _
  have hL : (dg l).length ≤ sizeLine := size_line (by rw [dg_len]; omega)
  have hD : (dg (Z.ds b n)).length ≤ sizeLine := size_line (by rw [dg_len]; omega)
  have l10 : ∀ d ∈ l, d < 10 := fun d hd => Nat.lt_of_lt_of_le (hl.2 d hd) hb
  unfold w__law_completed
  simp only [wSeq, wPar, wCons, wCall, wVar, gt, wCal, gLen, wNil]
  refine ⟨b, l, rfl, h2, hb, l10, hL, b, l.length, by rw [dg_len]; rfl, by omega, by omega, ?_⟩
  simp only [wIf, wTst, wBin, wVar, wC, gt, st, fEq]
  have sp : 0 < b ^ l.length := Nat.pow_pos (by omega)
  by_cases hz : z = "next"
  · rw [decide_eq_true hz]
    refine ite_t ?_
    simp only [wRet, wBin, wVar, wC, gt, wCal, wCons, wNil, gInt, fAdd, fSub, fMod]
    refine ⟨by omega, ?_⟩
    rw [next_mod (vl_lt hl.2)]
    unfold complD at hq
    rw [if_pos hz] at hq
    exact hq
  · rw [decide_eq_false hz]
    refine ite_f ?_
    have hq' : q (replD b n l) ah := by
      unfold complD at hq
      rw [if_neg hz] at hq
      exact hq
    simp only [wNext, wAsg, wCall, wCons, wNil, wVar, gt]
    refine ⟨b, n, rfl, h2, hb, hlen, ?_⟩
    simp only [gN, st, wIf, wTst, wBin, wVar, wC, gt, wCal, wCons, wNil, gLen, fGt]
    refine ⟨hD, hL, ?_⟩
    have last : ∀ g : Nat, replF b n l = g → (wRet (wIfE (wTst (wBin fGt (wVar 4) (wVar 2))) (wVar 4) (wC .non))) [some (.str z), some (.int b), some (.int n), some (.str (dg l)), some (.int g), some (.int ((b ^ l.length : Nat) : Int)), some (.str (dg (Z.ds b n)))] ah { nx := fun _ ah' => q .non ah', rt := q } (fun e _ ah' => x e ah') := by
      intro g hg
      unfold replD at hq'
      rw [hg] at hq'
      simp only [wRet, wIfE, wTst, wBin, wVar, gt, fGt, wC]
      by_cases c : n < g
      · rw [decide_eq_true (by omega : (n : Int) < g)]
        rw [if_pos c] at hq'
        exact hq'
      · rw [decide_eq_false (by omega : ¬ (n : Int) < g)]
        rw [if_neg c] at hq'
        exact hq'
    rw [dg_len, dg_len]
    by_cases c : l.length < (Z.ds b n).length
    · rw [decide_eq_true (by omega)]
      refine ite_t ?_
      simp only [wAsg, wCall, wCons, wNil, wBin, wVar, gt, wSl, wNoPart, wPart, wCal, gLen, fSub, fSl]
      refine ⟨hD, hL, hD, ?_⟩
      rw [dg_len, dg_len, show (((Z.ds b n).length : Int) - (l.length : Int)) = (((Z.ds b n).length - l.length : Nat) : Int) by omega, cut_take]
      simp only [fAdd]
      refine ⟨by rw [dg_len, dg_len]; exact size_line (by rw [List.length_take]; omega), b, (Z.ds b n).take ((Z.ds b n).length - l.length) ++ l, by rw [dg_append]; rfl, h2, hb, fun d hd => ?_, ?_⟩
      · rcases List.mem_append.mp hd with h | h
        · exact Nat.lt_of_lt_of_le (ds_lt h2 n d (List.mem_of_mem_take h)) hb
        · exact l10 d h
      · rw [vl_append, (ds_take h2 (by omega)).1]
        exact last _ (by unfold replF; rw [if_neg (by omega)])
    · rw [decide_eq_false (by omega)]
      refine ite_f ?_
      obtain ⟨d, t, rfl⟩ := head_dg hl.1
      simp only [wIf, wTst, wBin, wVar, wC, gt, fAt, fIx, at_zero]
      refine ⟨hL, ?_⟩
      by_cases d0 : d = 0
      · rw [decide_eq_true ((zero_sign d).mpr d0)]
        refine ite_t ?_
        show q .non ah
        have hr : replF b n (d :: t) = 0 := by unfold replF; rw [if_pos (by omega), if_pos (by subst d0; rfl)]
        unfold replD at hq'
        rw [hr, if_neg (by omega)] at hq'
        exact hq'
      · rw [decide_eq_false (fun e => d0 ((zero_sign d).mp e))]
        refine ite_f ?_
        exact last _ (by unfold replF; rw [if_pos (by omega), if_neg (by simp [d0])])
/-! ### the law's numbers and tails -/
theorem pick {m r : Nat} {ah : AH} {q : QE} {l : List D} {d : D} (h : ah[m]? = some (.lst l)) (e : l[r]? = some d) (hq : q d ah) : fAt (.ref m) (.int r) ah q := by
  simp only [fAt, fIx, h, atI_nat, e]
  exact hq
def sp__law_number : DSp := fun ds ah q _ => ∃ b many a : Nat, ds = [.ref 3, .int b, .int many] ∧ 2 ≤ b ∧ b ≤ 10 ∧ 1 ≤ many ∧ many ≤ 200 ∧ SI a ah ∧ a < 2 ^ 40 ∧
  ∀ (n a' : Nat) (ah' : AH), 1 ≤ n → n < b ^ 200 → a' ≤ a + 1000 → SI a' ah' → Fm ah ah' → q (.int n) ah'
def w__law_number : WS := (wSeq (wAsg (wC (.int 0)) (gN 3)) (wSeq (wFor (wRng1 (wCons (wBin fAdd (wC (.int 1)) (wCall sp__law_draw [] (wCons (wVar 0) (wCons (wVar 2) wNil)))) wNil)) (gN 4) (wAsg (wBin fAdd (wBin fMul (wVar 3) (wVar 1)) (wBin fAt (wLst (wCons (wCall sp__law_draw [] (wCons (wVar 0) (wCons (wVar 1) wNil))) (wCons (wC (.int 0)) (wCons (wBin fSub (wVar 1) (wC (.int 1))) wNil)))) (wCall sp__law_draw [] (wCons (wVar 0) (wCons (wC (.int 3)) wNil))))) (gN 3))) (wRet (wCal gMax2 (wCons (wC (.int 1)) (wCons (wVar 3) wNil))))))
theorem num_loop {b many : Nat} (h2 : 2 ≤ b) (hb : b ≤ 10) : ∀ (l : List D) (i f a : Nat) (o : Option D) (ah : AH) (dn : DEnds) (x : QXS), SI a ah → a + 2 * l.length < 2 ^ 50 → f < b ^ i →
    (∀ (f a' : Nat) (o : Option D) (ah' : AH), f < b ^ (i + l.length) → a' ≤ a + 2 * l.length → SI a' ah' → Fm ah ah' → dn.nx [some (.ref 3), some (.int b), some (.int many), some (.int f), o] ah') →
    forGo (fun _ => True) (gN 4) (wAsg (wBin fAdd (wBin fMul (wVar 3) (wVar 1)) (wBin fAt (wLst (wCons (wCall sp__law_draw [] (wCons (wVar 0) (wCons (wVar 1) wNil))) (wCons (wC (.int 0)) (wCons (wBin fSub (wVar 1) (wC (.int 1))) wNil)))) (wCall sp__law_draw [] (wCons (wVar 0) (wCons (wC (.int 3)) wNil))))) (gN 3)) dn x l
      [some (.ref 3), some (.int b), some (.int many), some (.int f), o] ah
  | [], i, f, a, o, ah, dn, x, hs, ha, hf, h => ⟨trivial, h f a o ah (by simpa using hf) (by simp) hs Fm.refl⟩
  | d :: l, i, f, a, o, ah, dn, x, hs, ha, hf, h => by
    simp only [List.length_cons] at ha h
    refine ⟨trivial, mul_small ⟨by omega, by omega⟩, b, a, rfl, by omega, by omega, hs, by omega, fun r ah1 hr s1 f1 => ?_⟩
    refine ⟨show 3 ≤ 16777216 by decide, 3, a + 1, rfl, by decide, by decide, s1.ext (Ext.push _), by omega, fun r2 ah2 hr2 s2 f2 => ?_⟩
    have g : ah2[ah1.length]? = some (.lst [.int r, .int 0, .int ((b : Int) - 1)]) := f2 _ _ s1.len (get_push _ _)
    have fm : Fm ah ah2 := f1.trans ((Ext.push _).fm.trans f2)
    have go : ∀ e : Nat, e < b → forGo (fun _ => True) (gN 4) (wAsg (wBin fAdd (wBin fMul (wVar 3) (wVar 1)) (wBin fAt (wLst (wCons (wCall sp__law_draw [] (wCons (wVar 0) (wCons (wVar 1) wNil))) (wCons (wC (.int 0)) (wCons (wBin fSub (wVar 1) (wC (.int 1))) wNil)))) (wCall sp__law_draw [] (wCons (wVar 0) (wCons (wC (.int 3)) wNil))))) (gN 3)) dn x l
        [some (.ref 3), some (.int b), some (.int many), some (.int ((f * b + e : Nat) : Int)), some d] ah2 := fun e he => by
      refine num_loop h2 hb l (i + 1) (f * b + e) (a + 1 + 1) (some d) ah2 dn x s2 (by omega) ?_ fun f' a' o' ah' hf' ha' hs' fm' => h f' a' o' ah' (by rw [show i + (l.length + 1) = i + 1 + l.length by omega]; exact hf') (by omega) hs' (fm.trans fm')
      have : (f + 1) * b ≤ b ^ i * b := Nat.mul_le_mul_right _ hf
      rw [Nat.add_mul] at this
      rw [Nat.pow_succ]; omega
    have c : r2 = 0 ∨ r2 = 1 ∨ r2 = 2 := by omega
    rcases c with rfl | rfl | rfl
    · have := go r hr
      rw [Int.natCast_add, Int.natCast_mul] at this
      exact pick g rfl this
    · have := go 0 (by omega)
      rw [Int.natCast_add, Int.natCast_mul] at this
      exact pick g rfl this
    · have := go (b - 1) (by omega)
      rw [Int.natCast_add, Int.natCast_mul, show ((b - 1 : Nat) : Int) = (b : Int) - 1 by omega] at this
      exact pick g rfl this
theorem wp__law_number (ds : List D) (ah : AH) (q : QE) (x : QX) (h : sp__law_number ds ah q x) : w__law_number (startD 5 ds) ah { nx := fun _ ah' => q .non ah', rt := q } (fun e _ ah' => x e ah') := by
  obtain ⟨b, many, a, rfl, h2, hb, m1, m2, hs, ha, hq⟩ := h
  show w__law_number [some (.ref 3), some (.int b), some (.int many), none, none] ah _ _
  refine ⟨many, a, rfl, by omega, by omega, hs, by omega, fun r ah1 hr s1 f1 => ?_⟩
  refine ⟨by omega, by omega, ?_⟩
  have hlen : (rangeD 0 ((1 : Int) + (r : Nat)).toNat).length = 1 + r := by rw [rangeD_len]; omega
  refine num_loop h2 hb _ 0 0 (a + 1) none ah1 _ _ s1 (by rw [hlen]; omega) (by simp) fun f a' o ah' hf ha' hs' fm' => ?_
  rw [hlen] at hf ha'
  have p200 : f < b ^ 200 := Nat.lt_of_lt_of_le hf (Nat.pow_le_pow_right (by omega) (by omega))
  show q (.int (if (f : Int) > 1 then (f : Int) else 1)) ah'
  split
  · exact hq f a' ah' (by omega) p200 (by omega) hs' (f1.trans fm')
  · exact hq 1 a' ah' (by omega) (Nat.one_lt_pow (by decide) (by omega)) (by omega) hs' (f1.trans fm')
end Z
namespace Z
open PySem PySem.Spec PyProof.Rows L2
theorem ds_short {b : Nat} (hb : 2 ≤ b) : ∀ (k n : Nat), n < b ^ k → (Z.ds b n).length ≤ k
  | 0, n, h => by
    have : n = 0 := by simpa using h
    subst this; rw [ds_zero]; simp
  | k + 1, n, h => by
    by_cases hn : n = 0
    · subst hn; rw [ds_zero]; simp
    · rw [ds_pos hb (by omega)]
      have : n / b < b ^ k := Nat.div_lt_of_lt_mul (by rw [Nat.pow_succ, Nat.mul_comm] at h; exact h)
      have := ds_short hb k (n / b) this
      simp; omega
def sp__law_tail_of : DSp := fun ds ah q _ => ∃ b n a : Nat, ds = [.ref 3, .int b, .int n] ∧ 2 ≤ b ∧ b ≤ 10 ∧ 1 ≤ n ∧ n < b ^ 200 ∧ SI a ah ∧ a < 2 ^ 40 ∧
  ∀ (l : List Nat) (a' : Nat) (ah' : AH), isDs b l → l.length ≤ 201 → a' ≤ a + 1000 → SI a' ah' → Fm ah ah' → q (.str (dg l)) ah'
def w__law_tail_of : WS := (wSeq (wPar 3 4 (wCons (wC (.str "")) (wCons (wCall sp__law_draw [] (wCons (wVar 0) (wCons (wC (.int 3)) wNil))) wNil))) (wSeq (wIf (wTst (wBin (fEq false) (wVar 4) (wC (.int 0)))) (wSeq (wFor (wRng1 (wCons (wBin fAdd (wC (.int 1)) (wCall sp__law_draw [] (wCons (wVar 0) (wCons (wC (.int 6)) wNil)))) wNil)) (gN 5) (wAsg (wBin fAdd (wVar 3) (wBin fAt (wC (.str "0123456789")) (wCall sp__law_draw [] (wCons (wVar 0) (wCons (wVar 1) wNil))))) (gN 3))) (wRet (wVar 3))) wNext) (wSeq (wAsg (wCall sp__law_digits [] (wCons (wVar 1) (wCons (wBin fAdd (wBin fAdd (wVar 2) (wBin fAt (wLst (wCons (wC (.int 0)) (wCons (wC (.int 1)) (wCons (wVar 1) (wCons (wBin fMul (wBin fMul (wC (.int 2)) (wVar 1)) (wVar 1)) wNil))))) (wCall sp__law_draw [] (wCons (wVar 0) (wCons (wC (.int 4)) wNil))))) (wCall sp__law_draw [] (wCons (wVar 0) (wCons (wC (.int 5)) wNil)))) wNil))) (gN 3)) (wRet (wSl (wVar 3) (wPart (wBin fSub (wBin fSub (wCal gLen (wCons (wVar 3) wNil)) (wC (.int 1))) (wCall sp__law_draw [] (wCons (wVar 0) (wCons (wCal gLen (wCons (wVar 3) wNil)) wNil))))) wNoPart)))))
theorem tail_loop {b : Nat} {n w : D} (h2 : 2 ≤ b) (hb : b ≤ 10) : ∀ (l : List D) (t : List Nat) (a : Nat) (o : Option D) (ah : AH) (dn : DEnds) (x : QXS), SI a ah → a + l.length < 2 ^ 50 → (∀ d ∈ t, d < b) → t.length + l.length ≤ 100 →
    (∀ (t' : List Nat) (a' : Nat) (o : Option D) (ah' : AH), (∀ d ∈ t', d < b) → t'.length = t.length + l.length → a' ≤ a + l.length → SI a' ah' → Fm ah ah' → dn.nx [some (.ref 3), some (.int b), some n, some (.str (dg t')), some w, o] ah') →
    forGo (fun _ => True) (gN 5) (wAsg (wBin fAdd (wVar 3) (wBin fAt (wC (.str "0123456789")) (wCall sp__law_draw [] (wCons (wVar 0) (wCons (wVar 1) wNil))))) (gN 3)) dn x l [some (.ref 3), some (.int b), some n, some (.str (dg t)), some w, o] ah
  | [], t, a, o, ah, dn, x, hs, ha, ht, hl, h => ⟨trivial, h t a o ah ht (by simp) (by simp) hs Fm.refl⟩
  | d :: l, t, a, o, ah, dn, x, hs, ha, ht, hl, h => by
    simp only [List.length_cons] at ha h hl
    refine ⟨trivial, b, a, rfl, by omega, by omega, hs, by omega, fun r ah1 hr s1 f1 => ?_⟩
    have ih := tail_loop (n := n) (w := w) h2 hb l (t ++ [r]) (a + 1) (some d) ah1 dn x s1 (by omega) (fun y hy => by
      rcases List.mem_append.mp hy with z | z
      · exact ht y z
      · rw [List.mem_singleton.mp z]; exact hr) (by simp; omega) fun t' a' o' ah' ht' hl' ha' hs' fm' => h t' a' o' ah' ht' (by simp at hl'; omega) (by omega) hs' (f1.trans fm')
    show fAt _ _ _ _
    simp only [fAt, fIx]
    refine ⟨figs_len, ?_⟩
    rw [at_figs (by omega)]
    simp only [fAdd]
    refine ⟨?_, ?_⟩
    · show (dg t).length + (dg [r]).length ≤ sizeLine
      rw [dg_len, dg_len]
      exact size_line (by simp; omega)
    · rw [← dg_append] at ih
      exact ih
theorem wp__law_tail_of (ds : List D) (ah : AH) (q : QE) (x : QX) (h : sp__law_tail_of ds ah q x) : w__law_tail_of (startD 6 ds) ah { nx := fun _ ah' => q .non ah', rt := q } (fun e _ ah' => x e ah') := by
  obtain ⟨b, n, a, rfl, h2, hb, n1, nn, hs, ha, hq⟩ := h
  show w__law_tail_of [some (.ref 3), some (.int b), some (.int n), none, none, none] ah _ _
  refine ⟨3, a, rfl, by decide, by decide, hs, by omega, fun w ah1 hw s1 f1 => ?_⟩
  simp only [wSeq, wIf, wTst, wBin, wVar, wC, gt, st, fEq, wNil]
  by_cases w0 : w = 0
  · subst w0
    refine ite_t ?_
    refine ⟨6, a + 1, rfl, by decide, by decide, s1, by omega, fun r ah2 hr s2 f2 => ⟨by omega, by omega, ?_⟩⟩
    have hlen : (rangeD 0 ((1 : Int) + (r : Nat)).toNat).length = 1 + r := by rw [rangeD_len]; omega
    refine tail_loop (w := .int 0) h2 hb _ [] (a + 1 + 1) none ah2 _ _ s2 (by rw [hlen]; omega) (by simp) (by rw [hlen]; simp; omega) fun t' a' o ah' ht' hl' ha' hs' fm' => ?_
    rw [hlen] at hl' ha'
    exact hq t' a' ah' ⟨fun z => by subst z; simp at hl'; omega, ht'⟩ (by simp at hl'; omega) (by omega) hs' (f1.trans (f2.trans fm'))
  · rw [decide_eq_false (by omega)]
    refine ite_f ?_
    refine ⟨mul_small ⟨by omega, by omega⟩, mul_small ⟨by omega, by omega⟩, show 4 ≤ 16777216 by decide, 4, a + 1, rfl, by decide, by decide, s1.ext (Ext.push _), by omega, fun r2 ah2 hr2 s2 f2 => ?_⟩
    have g : ah2[ah1.length]? = some (.lst [.int 0, .int 1, .int b, .int (2 * (b : Int) * b)]) := f2 _ _ s1.len (get_push _ _)
    have fm : Fm ah ah2 := f1.trans ((Ext.push _).fm.trans f2)
    have bb : b * b ≤ 100 := Nat.mul_le_mul hb hb
    obtain ⟨c, hc, ec⟩ : ∃ c : Nat, c ≤ 200 ∧ [D.int 0, .int 1, .int b, .int (2 * (b : Int) * b)][r2]? = some (.int c) := by
      have c : r2 = 0 ∨ r2 = 1 ∨ r2 = 2 ∨ r2 = 3 := by omega
      rcases c with rfl | rfl | rfl | rfl
      · exact ⟨0, by omega, rfl⟩
      · exact ⟨1, by omega, rfl⟩
      · exact ⟨b, by omega, rfl⟩
      · refine ⟨2 * b * b, by rw [Nat.mul_assoc]; omega, ?_⟩
        simp
    refine pick g ec ?_
    refine ⟨5, a + 1 + 1, rfl, by decide, by decide, s2, by omega, fun r3 ah3 hr3 s3 f3 => ?_⟩
    generalize hm : n + c + r3 = m
    have m1 : 1 ≤ m := by omega
    have b8 : 2 ^ 8 ≤ b ^ 200 := Nat.le_trans (Nat.pow_le_pow_left h2 8) (Nat.pow_le_pow_right (by omega) (by decide))
    have b9 : 2 * b ^ 200 ≤ b ^ 201 := by rw [Nat.pow_succ b 200, Nat.mul_comm]; exact Nat.mul_le_mul_left _ h2
    have m2 : m < b ^ 201 := by
      generalize b ^ 200 = y at *
      generalize b ^ 201 = y2 at *
      omega
    have hl := ds_short h2 201 m m2
    have hl0 : Z.ds b m ≠ [] := fun e => by have := ds_nil h2 e; omega
    have hl1 : 0 < (Z.ds b m).length := List.length_pos_iff.mpr hl0
    refine ⟨b, m, by rw [← hm]; simp, h2, hb, by omega, ?_⟩
    simp only [wRet, wSl, wVar, gN, gt, st, wPart, wBin, wCal, wCons, wNil, gLen, wC, fSub, wNoPart, wCall]
    have hD : (dg (Z.ds b m)).length ≤ sizeLine := size_line (by rw [dg_len]; omega)
    refine ⟨hD, hD, (Z.ds b m).length, a + 1 + 1 + 1, by rw [dg_len]; rfl, hl1, by omega, s3, by omega, fun r4 ah4 hr4 s4 f4 => ⟨hD, ?_⟩⟩
    rw [dg_len, show (((Z.ds b m).length : Int) - 1 - (r4 : Int)) = (((Z.ds b m).length - 1 - r4 : Nat) : Int) by omega, cut_drop]
    refine hq _ _ ah4 ⟨fun z => ?_, fun d hd => ds_lt h2 m d (List.mem_of_mem_drop hd)⟩ (by rw [List.length_drop]; omega) (by omega) s4 (fm.trans (f3.trans f4))
    have := congrArg List.length z
    rw [List.length_drop] at this
    simp at this
    omega
end Z
namespace Z
open PySem PySem.Spec PyProof.Rows L2
/-! ### what completion gives, plainly -/
theorem next_ok {b n : Nat} {l : List Nat} (h2 : 2 ≤ b) (hl : ∀ d ∈ l, d < b) : n < nextV b n l ∧ nextV b n l ≤ n + b ^ l.length ∧ nextV b n l % b ^ l.length = vl b l := by
  have hv := vl_lt hl
  have hn := Nat.div_add_mod' n (b ^ l.length)
  have hr := Nat.mod_lt n (show 0 < b ^ l.length by omega)
  have e1 : (n / b ^ l.length * b ^ l.length + vl b l) % b ^ l.length = vl b l := by
    rw [Nat.mul_comm, Nat.mul_add_mod, Nat.mod_eq_of_lt hv]
  have e2 : (n / b ^ l.length * b ^ l.length + vl b l + b ^ l.length) % b ^ l.length = vl b l := by
    rw [Nat.add_mod_right]; exact e1
  unfold nextV
  dsimp only
  generalize n / b ^ l.length * b ^ l.length = k at *
  generalize n % b ^ l.length = r at *
  generalize b ^ l.length = s at *
  split
  · exact ⟨by omega, by omega, e1⟩
  · exact ⟨by omega, by omega, e2⟩
theorem textFrom_le : ∀ (ts : List Str) (k : Nat) (acc : Str), (textFrom k acc ts).length ≤ acc.length + (ts.map fun t => t.length + 2).sum
  | [], k, acc => by simp [textFrom]
  | t :: ts, k, acc => by
    unfold textFrom
    have h := textFrom_le ts (k + 1) (acc ++ (if k > 0 then ", " else "" : String) ++ t)
    have e : ∀ a b : Str, (a ++ b).length = a.length + b.length := fun a b => by
      show (a.cps ++ b.cps).size = _
      rw [Array.size_append]; rfl
    rw [e, e] at h
    have e2 : (Str.ofString (if k > 0 then ", " else "" : String)).length ≤ 2 := by
      split <;> decide +kernel
    rw [List.map_cons, List.sum_cons]
    omega
theorem shown_list (ps : List PyData) : (PyData.list ps).shown.length ≤ 2 + ((PyData.shownAll ps).map fun t => t.length + 2).sum := by
  show (listText _).length ≤ _
  unfold listText
  have h := textFrom_le (PyData.shownAll ps) 0 "["
  have e : ∀ a b : Str, (a ++ b).length = a.length + b.length := fun a b => by
    show (a.cps ++ b.cps).size = _
    rw [Array.size_append]; rfl
  rw [e]
  have e1 : ("[" : Str).length = 1 := by decide +kernel
  have e2 : ("]" : Str).length = 1 := by decide +kernel
  rw [e2]
  rw [e1] at h
  omega
theorem log2_nat {n k : Nat} (hk : 0 < k) (h : n < 2 ^ k) : n.log2 < k := by
  by_cases hn : n = 0
  · subst hn; exact hk
  · exact (Nat.log2_lt hn).mpr h
/-- a number or None, as data -/
def pdO (d : D) : PyData := match d with
  | .int i => .int i
  | _ => .none
theorem repl_pd (b n : Nat) (l : List Nat) (f : Nat) (ah : AH) : pd f ah (replD b n l) = some (pdO (replD b n l)) := by
  unfold replD
  split
  · cases f <;> rfl
  · cases f <;> rfl
theorem repl_le {b n : Nat} {l : List Nat} (h2 : 2 ≤ b) (hl : ∀ d ∈ l, d < b) : replF b n l ≤ n + b ^ l.length := by
  have hv := vl_lt hl
  have hn := Nat.div_add_mod' n (b ^ l.length)
  unfold replF
  generalize n / b ^ l.length * b ^ l.length = k at *
  generalize n % b ^ l.length = r at *
  generalize b ^ l.length = s at *
  split
  · split <;> omega
  · omega
theorem pdO_small {b n : Nat} {l : List Nat} (h : replF b n l < 2 ^ 1900) : (pdO (replD b n l)).showable = true ∧ (pdO (replD b n l)).shown.length ≤ 1921 ∧ (pdO (replD b n l)).depth = 0 := by
  have hlog : ((replF b n l : Nat) : Int).natAbs.log2 < 1920 := by
    rw [Int.natAbs_natCast]; exact Nat.lt_of_lt_of_le (log2_nat (by omega) h) (by omega)
  unfold replD
  split
  · exact ⟨decide_eq_true hlog, int_text_len_1921 hlog, rfl⟩
  · exact ⟨rfl, by decide +kernel, rfl⟩
def sp__law_right : DSp := fun ds ah q _ => ∃ (b n : Nat) (l : List Nat), ds = [.int b, .int n, .str (dg l)] ∧ 2 ≤ b ∧ b ≤ 10 ∧ 1 ≤ n ∧ n < b ^ 200 ∧ isDs b l ∧ l.length ≤ 201 ∧ ∀ ah', Ext ah ah' → q (.bl true) ah'
def w__law_right : WS := (wSeq (wPar 3 4 (wCons (wCall sp_completed [] (wCons (wC (.str "next")) (wCons (wVar 0) (wCons (wVar 1) (wCons (wVar 2) wNil))))) (wCons (wCall sp_completed [] (wCons (wC (.str "replace")) (wCons (wVar 0) (wCons (wVar 1) (wCons (wVar 2) wNil))))) wNil))) (wSeq (wAsg (wLst (wCons (wCall sp__law_completed [] (wCons (wC (.str "next")) (wCons (wVar 0) (wCons (wVar 1) (wCons (wVar 2) wNil))))) (wCons (wCall sp__law_completed [] (wCons (wC (.str "replace")) (wCons (wVar 0) (wCons (wVar 1) (wCons (wVar 2) wNil))))) wNil))) (gN 5)) (wSeq (wIf (wTst (wBin (fEq true) (wCal gRepr (wCons (wLst (wCons (wVar 3) (wCons (wVar 4) wNil))) wNil)) (wCal gRepr (wCons (wVar 5) wNil)))) (wRet (wC (.bl false))) wNext) (wSeq (wPar 6 7 (wCons (wCall sp__law_power [] (wCons (wVar 0) (wCons (wCal gLen (wCons (wVar 2) wNil)) wNil))) (wCons (wCall sp__law_digits [] (wCons (wVar 0) (wCons (wVar 1) wNil))) wNil))) (wSeq (wIf ((wOr (wTst (wBin fLe (wVar 3) (wVar 1))) (wOr (wTst (wBin fGt (wVar 3) (wBin fAdd (wVar 1) (wVar 6)))) (wTst (wBin (fEq true) (wBin fMod (wCal gInt (wCons (wVar 3) wNil)) (wVar 6)) (wCall sp__law_value [] (wCons (wVar 0) (wCons (wVar 2) wNil)))))))) (wRet (wC (.bl false))) wNext) (wSeq (wIf (wTst (wBin fLt (wCal gLen (wCons (wVar 2) wNil)) (wCal gLen (wCons (wVar 7) wNil)))) (wRet ((wAndV (wBin (fEq false) (wBin (fEq false) (wVar 4) (wVar 3)) (wBin fGt (wVar 2) (wSl (wVar 7) (wPart (wBin fSub (wCal gLen (wCons (wVar 7) wNil)) (wCal gLen (wCons (wVar 2) wNil)))) wNoPart))) (wBin (fIn false) (wVar 4) (wTup (wCons (wVar 3) (wCons (wC .non) wNil))))))) wNext) (wRet ((wOrV (wBin (fIs false) (wVar 4) (wC .non)) (wBin (fEq false) (wCall sp__law_digits [] (wCons (wVar 0) (wCons (wVar 4) wNil))) (wVar 2)))))))))))
theorem gRepr_of {d : D} {p : PyData} {ah : AH} {q : QE} (h : pd 20 ah d = some p) (h1 : p.showable = true) (h2 : p.depth ≤ 64) (h3 : p.shown.length ≤ sizeLine) (hq : q (.str p.shown) ah) : gRepr [d] ah q := by
  unfold gRepr
  dsimp only
  rw [h]
  exact ⟨h1, h2, h3, hq⟩
theorem wp__law_right (ds : List D) (ah : AH) (q : QE) (x : QX) (h : sp__law_right ds ah q x) : w__law_right (startD 8 ds) ah { nx := fun _ ah' => q .non ah', rt := q } (fun e _ ah' => x e ah') := by
  obtain ⟨b, n, l, rfl, h2, hb, n1, nn, hl, hm, hq⟩ := h
  show w__law_right [some (.int b), some (.int n), some (.str (dg l)), none, none, none, none, none] ah _ _
  have p1 : b ^ 200 ≤ 16 ^ 200 := Nat.pow_le_pow_left (by omega) _
  have p2 : b ^ l.length ≤ 16 ^ 201 := Nat.le_trans (Nat.pow_le_pow_left (by omega) _) (Nat.pow_le_pow_right (by omega) hm)
  have p3 : (16 : Nat) ^ 200 + 16 ^ 201 < 2 ^ 1900 := by decide +kernel
  have p4 : (2 : Nat) ^ 1900 < 2 ^ 2000 := by decide +kernel
  have n2 : n < 2 ^ 2000 := by
    generalize (2 : Nat) ^ 2000 = y at *
    generalize (2 : Nat) ^ 1900 = y2 at *
    omega
  obtain ⟨c1, c2, c3⟩ := next_ok (n := n) h2 hl.2
  have hc : nextV b n l < 2 ^ 1900 := by
    generalize (2 : Nat) ^ 2000 = y at *
    generalize (2 : Nat) ^ 1900 = y2 at *
    omega
  have hf : replF b n l < 2 ^ 1900 := by
    have := repl_le (n := n) h2 hl.2
    generalize (2 : Nat) ^ 2000 = y at *
    generalize (2 : Nat) ^ 1900 = y2 at *
    omega
  have hlen := ds_short h2 200 n nn
  have hL : (dg l).length ≤ sizeLine := size_line (by rw [dg_len]; omega)
  have hD : (dg (Z.ds b n)).length ≤ sizeLine := size_line (by rw [dg_len]; omega)
  have l10 : ∀ d ∈ l, d < 10 := fun d hd => Nat.lt_of_lt_of_le (hl.2 d hd) hb
  have A1 : Args4 [.str "next", .int b, .int n, .str (dg l)] "next" b n l := ⟨rfl, .inr rfl, h2, hb, n1, n2, hl, by omega⟩
  have A2 : Args4 [.str "replace", .int b, .int n, .str (dg l)] "replace" b n l := ⟨rfl, .inl rfl, h2, hb, n1, n2, hl, by omega⟩
  have v1 : complD "next" b n l = .int (nextV b n l : Nat) := if_pos rfl
  have v2 : complD "replace" b n l = replD b n l := if_neg (by decide +kernel)
  unfold w__law_right
  simp only [wSeq, wPar, wCons, wCall, wVar, wC, gt, wNil]
  refine ⟨_, b, n, l, A1, fun ah1 x1 => ⟨_, b, n, l, A2, fun ah2 x2 => ?_⟩⟩
  rw [v1, v2]
  simp only [st, wAsg, wLst, wCons, wCall, wVar, wC, gt, wNil]
  refine ⟨_, b, n, l, A1, by omega, _, b, n, l, A2, by omega, show 2 ≤ 16777216 by decide, ?_⟩
  rw [v1, v2]
  simp only [newL, gN, st, wIf, wTst, wBin, wCal, wCons, wLst, wVar, wC, gt, wNil]
  refine ⟨show 2 ≤ 16777216 by decide, ?_⟩
  generalize e3 : ah2 ++ [O.lst [D.int (nextV b n l : Nat), replD b n l]] = ah3
  have x3 : Ext ah2 ah3 := by subst e3; exact Ext.push _
  have g3 : ah3[ah2.length]? = some (O.lst [D.int (nextV b n l : Nat), replD b n l]) := by subst e3; exact get_push _ _
  generalize e4 : ah3 ++ [O.lst [D.int (nextV b n l : Nat), replD b n l]] = ah4
  have x4 : Ext ah3 ah4 := by subst e4; exact Ext.push _
  have g4 : ah4[ah3.length]? = some (O.lst [D.int (nextV b n l : Nat), replD b n l]) := by subst e4; exact get_push _ _
  have g34 := x4 _ _ g3
  have pdl : ∀ m : Nat, ah4[m]? = some (O.lst [D.int (nextV b n l : Nat), replD b n l]) → pd 20 ah4 (.ref m) = some (.list [.int (nextV b n l : Nat), pdO (replD b n l)]) := fun m hm => by
    show (match ah4[m]? with | some (.lst xs) => (pds (pd 19 ah4) xs).map PyData.list | _ => none) = _
    rw [hm]
    show (match pd 19 ah4 (D.int (nextV b n l : Nat)), pds (pd 19 ah4) [replD b n l] with | some x, some y => some (x :: y) | _, _ => none).map PyData.list = _
    have : pds (pd 19 ah4) [replD b n l] = some [pdO (replD b n l)] := by
      unfold pds
      rw [repl_pd]
      rfl
    rw [this]
    rfl
  obtain ⟨s1, s2, s3⟩ := pdO_small hf
  have hlog : ((nextV b n l : Nat) : Int).natAbs.log2 < 1920 := by
    rw [Int.natAbs_natCast]; exact Nat.lt_of_lt_of_le (log2_nat (by omega) hc) (by omega)
  have w1 : (PyData.list [.int (nextV b n l : Nat), pdO (replD b n l)]).showable = true := by
    show (PyData.showable (.int _) && (PyData.showable _ && true)) = true
    rw [s1, show PyData.showable (.int (nextV b n l : Nat)) = true from decide_eq_true hlog]
    rfl
  have w2 : (PyData.list [.int (nextV b n l : Nat), pdO (replD b n l)]).depth ≤ 64 := by
    show max 0 (max (PyData.depth _) 0) + 1 ≤ 64
    rw [s3]; decide
  have w3 : (PyData.list [.int (nextV b n l : Nat), pdO (replD b n l)]).shown.length ≤ sizeLine := by
    refine size_line (Nat.le_trans (shown_list _) ?_)
    show 2 + ((Str.length (PyData.shown (.int _)) + 2) + ((Str.length (PyData.shown _) + 2) + 0)) ≤ _
    have := int_text_len_1921 hlog
    have e : PyData.shown (.int (nextV b n l : Nat)) = Str.ofString (toString ((nextV b n l : Nat) : Int)) := rfl
    rw [e]
    omega
  refine gRepr_of (pdl _ g4) w1 w2 w3 (gRepr_of (pdl _ g34) w1 w2 w3 ?_)
  simp only [fEq, decide_true]
  refine ite_f ?_
  simp only [wNext, wPar, wCons, wCall, wVar, gt, wCal, gLen, wNil]
  refine ⟨hL, b, l.length, by rw [dg_len]; rfl, by omega, by omega, b, n, rfl, h2, hb, by omega, ?_⟩
  simp only [st, wIf, wOr, wTst, wBin, wVar, wC, gt, fLe, fGt, fAdd]
  rw [decide_eq_false (by omega : ¬ ((nextV b n l : Nat) : Int) ≤ n)]
  refine ite_f ?_
  rw [← Int.natCast_add, decide_eq_false (by omega : ¬ ((n + b ^ l.length : Nat) : Int) < (nextV b n l : Nat))]
  refine ite_f ?_
  simp only [wCal, wCons, wNil, wVar, gt, gInt, fMod, wCall]
  have sp : 0 < b ^ l.length := Nat.pow_pos (by omega)
  refine ⟨by omega, b, l, rfl, h2, hb, l10, ?_⟩
  rw [← Int.natCast_emod, c3]
  simp only [fEq, decide_true]
  refine ite_f ?_
  have fin : Ext ah ah4 := x1.trans (x2.trans (x3.trans x4))
  simp only [wNext, wIf, wTst, wBin, wVar, gt, wCal, wCons, wNil, gLen, fLt]
  refine ⟨hL, hD, ?_⟩
  rw [dg_len, dg_len]
  by_cases c : l.length < (Z.ds b n).length
  · rw [decide_eq_true (by omega)]
    refine ite_t ?_
    simp only [wRet, wAndV, wBin, wVar, wC, gt, wSl, wPart, wNoPart, wCal, wCons, wNil, gLen, fSub, fSl]
    obtain ⟨t1, t2⟩ := ds_take (n := n) h2 (Nat.le_of_lt c)
    have lx := lex_iff h2 (l := (Z.ds b n).drop ((Z.ds b n).length - l.length)) (m := l) (by rw [List.length_drop]; omega) (fun d hd => ds_lt h2 n d (List.mem_of_mem_drop hd)) hl.2
    rw [t2] at lx
    have hv := vl_lt hl.2
    have hn := Nat.div_add_mod' n (b ^ l.length)
    have hr : replF b n l = n / b ^ l.length * b ^ l.length + vl b l := by unfold replF; rw [if_neg (by omega)]
    have back : ∀ (u v : Bool) (k : QE), u = v → k (.bl true) ah4 → fEq false (.bl u) (.bl v) ah4 k := fun u v k e hk => by
      subst e
      simp only [fEq, decide_true]
      exact hk
    by_cases g : n < replF b n l
    · have e1 : replD b n l = .int (replF b n l : Nat) := by unfold replD; rw [if_pos g]
      have e2 : nextV b n l = replF b n l := by unfold nextV; dsimp only; rw [hr] at g; rw [if_pos g, hr]
      have gt' : n % b ^ l.length < vl b l := by omega
      rw [e1, e2]
      simp only [fEq]
      refine ⟨hD, hL, hD, ?_⟩
      rw [dg_len, dg_len, show (((Z.ds b n).length : Int) - (l.length : Int)) = (((Z.ds b n).length - l.length : Nat) : Int) by omega, cut_drop]
      simp only [fGt, dg_cps]
      rw [decide_eq_true (lx.mpr gt')]
      refine ⟨show 2 ≤ 16777216 by decide, rfl, rfl, ?_⟩
      have := hq _ fin
      simpa [eqF] using this
    · have e1 : replD b n l = .non := by unfold replD; rw [if_neg g]
      have gt' : ¬ n % b ^ l.length < vl b l := by omega
      rw [e1]
      simp only [fEq]
      refine ⟨hD, hL, hD, ?_⟩
      rw [dg_len, dg_len, show (((Z.ds b n).length : Int) - (l.length : Int)) = (((Z.ds b n).length - l.length : Nat) : Int) by omega, cut_drop]
      simp only [fGt, dg_cps]
      rw [decide_eq_false (fun z => gt' (lx.mp z))]
      refine ⟨show 2 ≤ 16777216 by decide, rfl, rfl, ?_⟩
      exact hq _ fin
  · rw [decide_eq_false (by omega)]
    refine ite_f ?_
    simp only [wNext, wRet, wOrV, wBin, wVar, wC, gt]
    by_cases g : n < replF b n l
    · have e1 : replD b n l = .int (replF b n l : Nat) := by unfold replD; rw [if_pos g]
      have hne : l.head? ≠ some 0 := fun e => by
        unfold replF at g
        rw [if_pos (by omega), if_pos e] at g
        omega
      have e2 : replF b n l = vl b l := by unfold replF; rw [if_pos (by omega), if_neg hne]
      have e3 : Z.ds b (vl b l) = l := ds_vl h2 l hl.2 fun h t e z => hne (by rw [e, z]; rfl)
      rw [e1, e2]
      simp only [fIs, wCall, wCons, wNil, wVar]
      refine ⟨b, vl b l, rfl, h2, hb, by rw [e3]; omega, ?_⟩
      rw [e3]
      simp only [gt, fEq, decide_true]
      exact hq _ fin
    · have e1 : replD b n l = .non := by unfold replD; rw [if_neg g]
      rw [e1]
      exact hq _ fin
/-! ### the law -/
def sp_law : DSp := fun ds ah q _ => ∃ ns : List Int, ds = [.frl (ns.map D.int)] ∧ ns.length ≤ 1000 ∧ ah = [] ∧ ∀ ah', q (.bl true) ah'
def w_law : WS := (wSeq (wAsg (wCall sp__law_begin [] (wCons (wVar 0) wNil)) (gN 1)) (wSeq (wFor (wRng1 (wCons (wBin fAdd (wC (.int 4)) (wCal gMin2 (wCons (wC (.int 10)) (wCons (wCal gLen (wCons (wVar 0) wNil)) wNil)))) wNil)) (gN 2) (wSeq (wAsg (wBin fAdd (wC (.int 2)) (wCall sp__law_draw [] (wCons (wVar 1) (wCons (wC (.int 9)) wNil)))) (gN 3)) (wSeq (wAsg (wCall sp__law_number [] (wCons (wVar 1) (wCons (wVar 3) (wCons (wBin fAt (wLst (wCons (wC (.int 1)) (wCons (wC (.int 3)) (wCons (wC (.int 30)) (wCons (wC (.int 200)) wNil))))) (wCall sp__law_draw [] (wCons (wVar 1) (wCons (wC (.int 4)) wNil)))) wNil)))) (gN 4)) (wFor (wRng1 (wCons (wC (.int 6)) wNil)) (gN 5) (wSeq (wAsg (wCall sp__law_tail_of [] (wCons (wVar 1) (wCons (wVar 3) (wCons (wVar 4) wNil)))) (gN 6)) (wIf (wNot (wTst (wCall sp__law_right [] (wCons (wVar 3) (wCons (wVar 4) (wCons (wVar 6) wNil)))))) (wRet (wC (.bl false))) wNext)))))) (wRet (wC (.bl true)))))
abbrev w_inner : WS := (wSeq (wAsg (wCall sp__law_tail_of [] (wCons (wVar 1) (wCons (wVar 3) (wCons (wVar 4) wNil)))) (gN 6)) (wIf (wNot (wTst (wCall sp__law_right [] (wCons (wVar 3) (wCons (wVar 4) (wCons (wVar 6) wNil)))))) (wRet (wC (.bl false))) wNext))
theorem inner_loop {s t : D} {b n : Nat} (h2 : 2 ≤ b) (hb : b ≤ 10) (n1 : 1 ≤ n) (nn : n < b ^ 200) : ∀ (l : List D) (a : Nat) (o o2 : Option D) (ah : AH) (dn : DEnds) (x : QXS), SI a ah → a + 1000 * l.length < 2 ^ 40 →
    (∀ (a' : Nat) (o o2 : Option D) (ah' : AH), a' ≤ a + 1000 * l.length → SI a' ah' → dn.nx [some s, some (.ref 3), some t, some (.int b), some (.int n), o, o2] ah') →
    forGo (fun _ => True) (gN 5) w_inner dn x l [some s, some (.ref 3), some t, some (.int b), some (.int n), o, o2] ah
  | [], a, o, o2, ah, dn, x, hs, ha, h => ⟨trivial, h a o o2 ah (by simp) hs⟩
  | d :: l, a, o, o2, ah, dn, x, hs, ha, h => by
    simp only [List.length_cons] at ha h
    refine ⟨trivial, b, n, a, rfl, h2, hb, n1, nn, hs, by omega, fun tl a1 ah1 ht hl ha1 s1 f1 => ⟨b, n, tl, rfl, h2, hb, n1, nn, ht, hl, fun ah2 x2 => ?_⟩⟩
    exact inner_loop h2 hb n1 nn l a1 (some d) (some (.str (dg tl))) ah2 dn x (s1.ext x2) (by omega) fun a' o o2 ah' ha' hs' => h a' o o2 ah' (by omega) hs'
theorem outer_loop {s : D} : ∀ (l : List D) (a : Nat) (o o2 o3 o4 o5 : Option D) (ah : AH) (dn : DEnds) (x : QXS), SI a ah → a + 10000 * l.length < 2 ^ 39 →
    (∀ (o o2 o3 o4 o5 : Option D) (ah' : AH), dn.nx [some s, some (.ref 3), o, o2, o3, o4, o5] ah') →
    forGo (fun _ => True) (gN 2) (wSeq (wAsg (wBin fAdd (wC (.int 2)) (wCall sp__law_draw [] (wCons (wVar 1) (wCons (wC (.int 9)) wNil)))) (gN 3)) (wSeq (wAsg (wCall sp__law_number [] (wCons (wVar 1) (wCons (wVar 3) (wCons (wBin fAt (wLst (wCons (wC (.int 1)) (wCons (wC (.int 3)) (wCons (wC (.int 30)) (wCons (wC (.int 200)) wNil))))) (wCall sp__law_draw [] (wCons (wVar 1) (wCons (wC (.int 4)) wNil)))) wNil)))) (gN 4)) (wFor (wRng1 (wCons (wC (.int 6)) wNil)) (gN 5) w_inner)))
      dn x l [some s, some (.ref 3), o, o2, o3, o4, o5] ah
  | [], a, o, o2, o3, o4, o5, ah, dn, x, hs, ha, h => ⟨trivial, h o o2 o3 o4 o5 ah⟩
  | d :: l, a, o, o2, o3, o4, o5, ah, dn, x, hs, ha, h => by
    simp only [List.length_cons] at ha
    refine ⟨trivial, 9, a, rfl, by decide, by decide, hs, by omega, fun r1 ah1 hr1 s1 f1 => ?_⟩
    refine ⟨show 4 ≤ 16777216 by decide, 4, a + 1, rfl, by decide, by decide, s1.ext (Ext.push _), by omega, fun r2 ah2 hr2 s2 f2 => ?_⟩
    have g : ah2[ah1.length]? = some (.lst [.int 1, .int 3, .int 30, .int 200]) := f2 _ _ s1.len (get_push _ _)
    obtain ⟨c, hc1, hc2, ec⟩ : ∃ c : Nat, 1 ≤ c ∧ c ≤ 200 ∧ [D.int 1, .int 3, .int 30, .int 200][r2]? = some (.int c) := by
      have c : r2 = 0 ∨ r2 = 1 ∨ r2 = 2 ∨ r2 = 3 := by omega
      rcases c with rfl | rfl | rfl | rfl
      · exact ⟨1, by omega, by omega, rfl⟩
      · exact ⟨3, by omega, by omega, rfl⟩
      · exact ⟨30, by omega, by omega, rfl⟩
      · exact ⟨200, by omega, by omega, rfl⟩
    refine pick g ec ?_
    refine ⟨2 + r1, c, a + 1 + 1, by simp, by omega, by omega, hc1, hc2, s2, by omega, fun n a3 ah3 n1 nn ha3 s3 f3 => ?_⟩
    refine ⟨by decide, by decide, ?_⟩
    have hlen : (rangeD 0 (6 : Int).toNat).length = 6 := rfl
    have ih := inner_loop (s := s) (t := d) (b := 2 + r1) (n := n) (by omega) (by omega) n1 nn (rangeD 0 (6 : Int).toNat) a3 o4 o5 ah3 { dn with nx := forGo (fun _ => True) (gN 2) (wSeq (wAsg (wBin fAdd (wC (.int 2)) (wCall sp__law_draw [] (wCons (wVar 1) (wCons (wC (.int 9)) wNil)))) (gN 3)) (wSeq (wAsg (wCall sp__law_number [] (wCons (wVar 1) (wCons (wVar 3) (wCons (wBin fAt (wLst (wCons (wC (.int 1)) (wCons (wC (.int 3)) (wCons (wC (.int 30)) (wCons (wC (.int 200)) wNil))))) (wCall sp__law_draw [] (wCons (wVar 1) (wCons (wC (.int 4)) wNil)))) wNil)))) (gN 4)) (wFor (wRng1 (wCons (wC (.int 6)) wNil)) (gN 5) w_inner))) dn x l, ct := forGo (fun _ => True) (gN 2) (wSeq (wAsg (wBin fAdd (wC (.int 2)) (wCall sp__law_draw [] (wCons (wVar 1) (wCons (wC (.int 9)) wNil)))) (gN 3)) (wSeq (wAsg (wCall sp__law_number [] (wCons (wVar 1) (wCons (wVar 3) (wCons (wBin fAt (wLst (wCons (wC (.int 1)) (wCons (wC (.int 3)) (wCons (wC (.int 30)) (wCons (wC (.int 200)) wNil))))) (wCall sp__law_draw [] (wCons (wVar 1) (wCons (wC (.int 4)) wNil)))) wNil)))) (gN 4)) (wFor (wRng1 (wCons (wC (.int 6)) wNil)) (gN 5) w_inner))) dn x l, bk := dn.nx } x s3 (by rw [hlen]; omega)
      (fun a' o o2 ah' ha' hs' => by
        rw [hlen] at ha'
        exact outer_loop l a' (some d) _ _ _ _ ah' dn x hs' (by omega) h)
    rw [Int.natCast_add] at ih
    exact ih
theorem wp_law (ds : List D) (ah : AH) (q : QE) (x : QX) (h : sp_law ds ah q x) : w_law (startD 7 ds) ah { nx := fun _ ah' => q .non ah', rt := q } (fun e _ ah' => x e ah') := by
  obtain ⟨ns, rfl, hn, rfl, hq⟩ := h
  show w_law [some (.frl (ns.map D.int)), none, none, none, none, none, none] [] _ _
  refine ⟨ns, rfl, hn, rfl, fun ah1 s1 => ?_⟩
  refine ⟨?_, ?_, ?_⟩
  · show _ ≤ (4 : Int) + (if ((ns.map D.int).length : Int) < 10 then ((ns.map D.int).length : Int) else 10)
    split <;> omega
  · show (4 : Int) + (if ((ns.map D.int).length : Int) < 10 then ((ns.map D.int).length : Int) else 10) < _
    split <;> omega
  · refine outer_loop _ 0 none none none none none ah1 _ _ s1 ?_ fun _ _ _ _ _ ah' => hq ah'
    rw [rangeD_len]
    split <;> omega
theorem law_start (ns : List Int) (h : ns.length ≤ 63) (hb : ∀ z ∈ ns, Builtin.Int.intBits z ≤ 1048576) : sp_law [.frl (ns.map D.int)] [] (fun d _ => d = .bl true) fun _ _ => False :=
  ⟨ns, rfl, by omega, rfl, fun _ => rfl⟩
end Z

namespace Z
open PySem PySem.Spec PyProof.Rows L2
def top (i : Nat) : Stmt := PySem.Challenge.pw_shortspans_k09_whole_tails_completed.main.body.getD i (.Pass ⟨0, 0, 0, 0⟩)
section
variable {P : Program} {wd : World} {K : PySem.W.Frag} {mg : Str → Option Value} {base : Heap}
theorem sc_is_among : FnScope ["thing", "least", "most"] ["thing", "least", "most"] (defScope (top 10)) := ⟨rfl, rfl, rfl, by decide +kernel, rfl, by decide +kernel, by decide +kernel⟩
theorem d_is_among (m_bool : mg "bool" = none) (m_int : mg "int" = none) (m_isinstance : mg "isinstance" = none) {f : Addr} {cdv : Value} {A : Around} {outer : List Env} {s : Shared} {H : Hp} {E : XK} (hr : RoomG 0 (A.deeper (envOfC "is_among" (defScope (top 10)) s.heap.objs.size f cdv))) :
    DSs (cxOf (L2.CX P wd) P wd K mg base ["thing", "least", "most"] "is_among" (defScope (top 10)) f cdv A outer s H E) (defBody (top 10)) w_is_among := by
  have S := sc_is_among
  exact (dss_one (ds_ret ((de_and (de_callB (cal_isi) rfl m_isinstance (by decide +kernel) (da_cons (de_var (i := 0) rfl (.inl rfl)) (da_cons (de_gty rfl m_int (by decide +kernel)) da_nil))) (de_and (de_not (de_callB (cal_isi) rfl m_isinstance (by decide +kernel) (da_cons (de_var (i := 0) rfl (.inl rfl)) (da_cons (de_gty rfl m_bool (by decide +kernel)) da_nil)))) (de_one (de_chain bop_le bop_le (de_var (i := 1) rfl (.inl rfl)) (de_var (i := 0) rfl (.inl rfl)) (de_var (i := 2) rfl (.inl rfl)))))))))
theorem sc_is_number : FnScope ["thing"] ["thing"] (defScope (top 11)) := ⟨rfl, rfl, rfl, by decide +kernel, rfl, by decide +kernel, by decide +kernel⟩
theorem d_is_number (m_bool : mg "bool" = none) (m_int : mg "int" = none) (m_isinstance : mg "isinstance" = none) {f : Addr} {cdv : Value} {A : Around} {outer : List Env} {s : Shared} {H : Hp} {E : XK} (hr : RoomG 0 (A.deeper (envOfC "is_number" (defScope (top 11)) s.heap.objs.size f cdv))) :
    DSs (cxOf (L2.CX P wd) P wd K mg base ["thing"] "is_number" (defScope (top 11)) f cdv A outer s H E) (defBody (top 11)) w_is_number := by
  have S := sc_is_number
  exact (dss_one (ds_ret ((de_and (de_callB (cal_isi) rfl m_isinstance (by decide +kernel) (da_cons (de_var (i := 0) rfl (.inl rfl)) (da_cons (de_gty rfl m_int (by decide +kernel)) da_nil))) (de_and (de_not (de_callB (cal_isi) rfl m_isinstance (by decide +kernel) (da_cons (de_var (i := 0) rfl (.inl rfl)) (da_cons (de_gty rfl m_bool (by decide +kernel)) da_nil)))) (de_one (de_cmp bop_ge (de_var (i := 0) rfl (.inl rfl)) (de_int) (nomark _))))))))
theorem sc_need_base : FnScope ["thing"] ["thing"] (defScope (top 12)) := ⟨rfl, rfl, rfl, by decide +kernel, rfl, by decide +kernel, by decide +kernel⟩
theorem d_need_base (g_LEAST_BASE : ∃ t, mg "LEAST_BASE" = some (.int 2 t)) (g_MOST_BASE : ∃ t, mg "MOST_BASE" = some (.int 10 t)) (h_is_among : Has P wd K mg base "is_among" 1 ["thing", "least", "most"] sp_is_among) {f : Addr} {cdv : Value} {A : Around} {outer : List Env} {s : Shared} {H : Hp} {E : XK} (hr : RoomG 1 (A.deeper (envOfC "need_base" (defScope (top 12)) s.heap.objs.size f cdv))) :
    DSs (cxOf (L2.CX P wd) P wd K mg base ["thing"] "need_base" (defScope (top 12)) f cdv A outer s H E) (defBody (top 12)) w_need_base := by
  have S := sc_need_base
  exact (dss_one (ds_if (dt_not (dt_val (de_fn h_is_among hr (by decide) rfl (da_cons (de_var (i := 0) rfl (.inl rfl)) (da_cons (de_gint rfl g_LEAST_BASE) (da_cons (de_gint rfl g_MOST_BASE) da_nil)))))) (dss_one (ds_never)) dss_nil))
theorem sc_need_number : FnScope ["thing"] ["thing"] (defScope (top 13)) := ⟨rfl, rfl, rfl, by decide +kernel, rfl, by decide +kernel, by decide +kernel⟩
theorem d_need_number (h_is_number : Has P wd K mg base "is_number" 1 ["thing"] sp_is_number) {f : Addr} {cdv : Value} {A : Around} {outer : List Env} {s : Shared} {H : Hp} {E : XK} (hr : RoomG 1 (A.deeper (envOfC "need_number" (defScope (top 13)) s.heap.objs.size f cdv))) :
    DSs (cxOf (L2.CX P wd) P wd K mg base ["thing"] "need_number" (defScope (top 13)) f cdv A outer s H E) (defBody (top 13)) w_need_number := by
  have S := sc_need_number
  exact (dss_one (ds_if (dt_not (dt_val (de_fn h_is_number hr (by decide) rfl (da_cons (de_var (i := 0) rfl (.inl rfl)) da_nil)))) (dss_one (ds_never)) dss_nil))
theorem sc_power : FnScope ["base", "many", "found", "turn"] ["base", "many"] (defScope (top 14)) := ⟨rfl, rfl, rfl, by decide +kernel, rfl, by decide +kernel, by decide +kernel⟩
theorem d_power (m_range : mg "range" = none) {f : Addr} {cdv : Value} {A : Around} {outer : List Env} {s : Shared} {H : Hp} {E : XK} (hr : RoomG 0 (A.deeper (envOfC "power" (defScope (top 14)) s.heap.objs.size f cdv))) :
    DSs (cxOf (L2.CX P wd) P wd K mg base ["base", "many", "found", "turn"] "power" (defScope (top 14)) f cdv A outer s H E) (defBody (top 14)) w_power := by
  have S := sc_power
  exact (dss_cons (ds_set (i := 2) S.nd rfl (.inl rfl) (de_int))
    (dss_cons (ds_for (passes_of rfl) rfl (di_range1 rfl m_range (da_cons (de_var (i := 1) rfl (.inl rfl)) da_nil)) (dg_name (i := 3) S.nd rfl (.inl rfl)) (dss_one (ds_set (i := 2) S.nd rfl (.inl rfl) (de_bin bop_mul (de_var (i := 2) rfl (.inl rfl)) (de_var (i := 0) rfl (.inl rfl))))))
    (dss_one (ds_ret (de_var (i := 2) rfl (.inl rfl))))))
theorem sc_are_digits : FnScope ["base", "thing", "sign"] ["base", "thing"] (defScope (top 15)) := ⟨rfl, rfl, rfl, by decide +kernel, rfl, by decide +kernel, by decide +kernel⟩
theorem d_are_digits (g_FIGURES : ∃ t, mg "FIGURES" = some (.str "0123456789" t)) (m_all : mg "all" = none) (m_isinstance : mg "isinstance" = none) (m_str : mg "str" = none) {f : Addr} {cdv : Value} {A : Around} {outer : List Env} {s : Shared} {H : Hp} {E : XK} (hr : RoomG 0 (A.deeper (envOfC "are_digits" (defScope (top 15)) s.heap.objs.size f cdv))) :
    DSs (cxOf (L2.CX P wd) P wd K mg base ["base", "thing", "sign"] "are_digits" (defScope (top 15)) f cdv A outer s H E) (defBody (top 15)) w_are_digits := by
  have S := sc_are_digits
  exact (dss_one (ds_ret ((de_and (de_callB (cal_isi) rfl m_isinstance (by decide +kernel) (da_cons (de_var (i := 1) rfl (.inl rfl)) (da_cons (de_gty rfl m_str (by decide +kernel)) da_nil))) (de_and (de_cmp (bop_ne hr.units) (de_var (i := 1) rfl (.inl rfl)) (de_str) (nomark _)) (de_one (de_callB (cal_all rfl) rfl m_all (by decide +kernel) (da_cons (de_lc rfl S.nd (di_val (de_var (i := 1) rfl (.inl rfl))) (blkOk_by (own := [("sign", 2)]) (by kernel_rfl)) (fun _ _ _ _ _ => (pg_name (i := 2) S.nd rfl (.inl rfl))) tgd_name (fun _ _ _ _ _ => dts_nil) (fun _ _ _ _ _ => (de_cmp bop_in (de_var (i := 2) rfl (.inl rfl)) (de_slice (de_gstr rfl g_FIGURES) do_none (do_some (de_var (i := 0) rfl (.inr (.inl rfl))))) (by rfl)))) da_nil))))))))
theorem sc_value_of : FnScope ["base", "text", "found", "sign"] ["base", "text"] (defScope (top 16)) := ⟨rfl, rfl, rfl, by decide +kernel, rfl, by decide +kernel, by decide +kernel⟩
theorem d_value_of (g_FIGURES : ∃ t, mg "FIGURES" = some (.str "0123456789" t)) {f : Addr} {cdv : Value} {A : Around} {outer : List Env} {s : Shared} {H : Hp} {E : XK} (hr : RoomG 0 (A.deeper (envOfC "value_of" (defScope (top 16)) s.heap.objs.size f cdv))) :
    DSs (cxOf (L2.CX P wd) P wd K mg base ["base", "text", "found", "sign"] "value_of" (defScope (top 16)) f cdv A outer s H E) (defBody (top 16)) w_value_of := by
  have S := sc_value_of
  exact (dss_cons (ds_set (i := 2) S.nd rfl (.inl rfl) (de_int))
    (dss_cons (ds_for (passes_of rfl) rfl (di_val (de_var (i := 1) rfl (.inl rfl))) (dg_name (i := 3) S.nd rfl (.inl rfl)) (dss_one (ds_set (i := 2) S.nd rfl (.inl rfl) (de_bin bop_add (de_bin bop_mul (de_var (i := 2) rfl (.inl rfl)) (de_var (i := 0) rfl (.inl rfl))) (de_met PySem.F.plainAttrs_str PySem.F.slot_str_index PySem.F.type_str_index met_sindex (de_gstr rfl g_FIGURES) (da_cons (de_var (i := 3) rfl (.inl rfl)) da_nil))))))
    (dss_one (ds_ret (de_var (i := 2) rfl (.inl rfl))))))
theorem sc_length_of : FnScope ["base", "number", "found"] ["base", "number"] (defScope (top 17)) := ⟨rfl, rfl, rfl, by decide +kernel, rfl, by decide +kernel, by decide +kernel⟩
theorem d_length_of  {f : Addr} {cdv : Value} {A : Around} {outer : List Env} {s : Shared} {H : Hp} {E : XK} (hr : RoomG 0 (A.deeper (envOfC "length_of" (defScope (top 17)) s.heap.objs.size f cdv))) :
    DSs (cxOf (L2.CX P wd) P wd K mg base ["base", "number", "found"] "length_of" (defScope (top 17)) f cdv A outer s H E) (defBody (top 17)) w_length_of := by
  have S := sc_length_of
  exact (dss_cons (ds_set (i := 2) S.nd rfl (.inl rfl) (de_int))
    (dss_cons (ds_while (passes_of rfl) (dt_cmp bop_gt (de_var (i := 1) rfl (.inl rfl)) (de_int) (nomark _)) (dss_cons (ds_set (i := 1) S.nd rfl (.inl rfl) (de_bin bop_div (de_var (i := 1) rfl (.inl rfl)) (de_var (i := 0) rfl (.inl rfl))))
    (dss_one (ds_aug (i := 2) S.nd rfl (.inl rfl) (de_int) ip_addD))))
    (dss_one (ds_ret (de_var (i := 2) rfl (.inl rfl))))))
theorem sc_need_reader : FnScope ["thing"] ["thing"] (defScope (top 22)) := ⟨rfl, rfl, rfl, by decide +kernel, rfl, by decide +kernel, by decide +kernel⟩
theorem d_need_reader (g_READERS : mg "READERS" = some (.ref (He.ga K "READERS"))) (m_isinstance : mg "isinstance" = none) (m_str : mg "str" = none) (t_READERS : KTup K (He.ga K "READERS") ["replace", "next"]) {f : Addr} {cdv : Value} {A : Around} {outer : List Env} {s : Shared} {H : Hp} {E : XK} (hr : RoomG 0 (A.deeper (envOfC "need_reader" (defScope (top 22)) s.heap.objs.size f cdv))) :
    DSs (cxOf (L2.CX P wd) P wd K mg base ["thing"] "need_reader" (defScope (top 22)) f cdv A outer s H E) (defBody (top 22)) w_need_reader := by
  have S := sc_need_reader
  exact (dss_one (ds_if (DWt.dt (dw_or (dt_not (dt_val (de_callB (cal_isi) rfl m_isinstance (by decide +kernel) (da_cons (de_var (i := 0) rfl (.inl rfl)) (da_cons (de_gty rfl m_str (by decide +kernel)) da_nil))))) (dw_or1 (dt_cmp bop_notin (de_var (i := 0) rfl (.inl rfl)) (de_gtup rfl g_READERS t_READERS) (by rfl))))) (dss_one (ds_never)) dss_nil))
theorem sc_is_tail : FnScope ["base", "thing"] ["base", "thing"] (defScope (top 23)) := ⟨rfl, rfl, rfl, by decide +kernel, rfl, by decide +kernel, by decide +kernel⟩
theorem d_is_tail (g_MOST_DIGITS : ∃ t, mg "MOST_DIGITS" = some (.int 1000 t)) (h_are_digits : Has P wd K mg base "are_digits" 1 ["base", "thing"] sp_are_digits) (m_len : mg "len" = none) {f : Addr} {cdv : Value} {A : Around} {outer : List Env} {s : Shared} {H : Hp} {E : XK} (hr : RoomG 1 (A.deeper (envOfC "is_tail" (defScope (top 23)) s.heap.objs.size f cdv))) :
    DSs (cxOf (L2.CX P wd) P wd K mg base ["base", "thing"] "is_tail" (defScope (top 23)) f cdv A outer s H E) (defBody (top 23)) w_is_tail := by
  have S := sc_is_tail
  exact (dss_one (ds_ret ((de_and (de_fn h_are_digits hr (by decide) rfl (da_cons (de_var (i := 0) rfl (.inl rfl)) (da_cons (de_var (i := 1) rfl (.inl rfl)) da_nil))) (de_one (de_cmp bop_le (de_callB (cal_len) rfl m_len (by decide +kernel) (da_cons (de_var (i := 1) rfl (.inl rfl)) da_nil)) (de_gint rfl g_MOST_DIGITS) (nomark _)))))))
theorem sc_completed_in : FnScope ["reader", "base", "first", "tail", "size", "value", "found"] ["reader", "base", "first", "tail"] (defScope (top 24)) := ⟨rfl, rfl, rfl, by decide +kernel, rfl, by decide +kernel, by decide +kernel⟩
theorem d_completed_in (g_NEXT : ∃ t, mg "NEXT" = some (.str "next" t)) (h_length_of : Has P wd K mg base "length_of" 1 ["base", "number"] sp_length_of) (h_power : Has P wd K mg base "power" 1 ["base", "many"] sp_power) (h_value_of : Has P wd K mg base "value_of" 1 ["base", "text"] sp_value_of) (m_len : mg "len" = none) {f : Addr} {cdv : Value} {A : Around} {outer : List Env} {s : Shared} {H : Hp} {E : XK} (hr : RoomG 1 (A.deeper (envOfC "completed_in" (defScope (top 24)) s.heap.objs.size f cdv))) :
    DSs (cxOf (L2.CX P wd) P wd K mg base ["reader", "base", "first", "tail", "size", "value", "found"] "completed_in" (defScope (top 24)) f cdv A outer s H E) (defBody (top 24)) w_completed_in := by
  have S := sc_completed_in
  exact (dss_cons (ds_par (i := 4) (j := 5) rfl S.nd rfl rfl (by decide) rfl rfl (da_cons (de_fn h_power hr (by decide) rfl (da_cons (de_var (i := 1) rfl (.inl rfl)) (da_cons (de_callB (cal_len) rfl m_len (by decide +kernel) (da_cons (de_var (i := 3) rfl (.inl rfl)) da_nil)) da_nil))) (da_cons (de_fn h_value_of hr (by decide) rfl (da_cons (de_var (i := 1) rfl (.inl rfl)) (da_cons (de_var (i := 3) rfl (.inl rfl)) da_nil))) da_nil)) (by rfl))
    (dss_cons (ds_set (i := 6) S.nd rfl (.inl rfl) (de_bin bop_add (de_bin bop_mul (de_bin bop_div (de_var (i := 2) rfl (.inl rfl)) (de_var (i := 4) rfl (.inl rfl))) (de_var (i := 4) rfl (.inl rfl))) (de_var (i := 5) rfl (.inl rfl))))
    (dss_cons (ds_if (dt_cmp (bop_eq hr.units) (de_var (i := 0) rfl (.inl rfl)) (de_gstr rfl g_NEXT) (nomark _)) (dss_one (ds_ret (de_if (dt_cmp bop_gt (de_var (i := 6) rfl (.inl rfl)) (de_var (i := 2) rfl (.inl rfl)) (nomark _)) (de_var (i := 6) rfl (.inl rfl)) (de_bin bop_add (de_var (i := 6) rfl (.inl rfl)) (de_var (i := 4) rfl (.inl rfl)))))) dss_nil)
    (dss_cons (ds_if (dt_cmp bop_ge (de_callB (cal_len) rfl m_len (by decide +kernel) (da_cons (de_var (i := 3) rfl (.inl rfl)) da_nil)) (de_fn h_length_of hr (by decide) rfl (da_cons (de_var (i := 1) rfl (.inl rfl)) (da_cons (de_var (i := 2) rfl (.inl rfl)) da_nil))) (nomark _)) (dss_one (ds_set (i := 6) S.nd rfl (.inl rfl) (de_if (dt_cmp (bop_ne hr.units) (de_at hr.units1 (de_var (i := 3) rfl (.inl rfl)) (de_int) (fun _ _ => rfl)) (de_str) (nomark _)) (de_var (i := 5) rfl (.inl rfl)) (de_int)))) dss_nil)
    (dss_one (ds_ret (de_if (dt_cmp bop_gt (de_var (i := 6) rfl (.inl rfl)) (de_var (i := 2) rfl (.inl rfl)) (nomark _)) (de_var (i := 6) rfl (.inl rfl)) (de_non))))))))
theorem sc_completed : FnScope ["reader", "base", "first", "tail"] ["reader", "base", "first", "tail"] (defScope (top 25)) := ⟨rfl, rfl, rfl, by decide +kernel, rfl, by decide +kernel, by decide +kernel⟩
theorem d_completed (h_completed_in : Has P wd K mg base "completed_in" 2 ["reader", "base", "first", "tail"] sp_completed_in) (h_is_tail : Has P wd K mg base "is_tail" 2 ["base", "thing"] sp_is_tail) (h_need_base : Has P wd K mg base "need_base" 2 ["thing"] sp_need_base) (h_need_number : Has P wd K mg base "need_number" 2 ["thing"] sp_need_number) (h_need_reader : Has P wd K mg base "need_reader" 1 ["thing"] sp_need_reader) {f : Addr} {cdv : Value} {A : Around} {outer : List Env} {s : Shared} {H : Hp} {E : XK} (hr : RoomG 2 (A.deeper (envOfC "completed" (defScope (top 25)) s.heap.objs.size f cdv))) :
    DSs (cxOf (L2.CX P wd) P wd K mg base ["reader", "base", "first", "tail"] "completed" (defScope (top 25)) f cdv A outer s H E) (defBody (top 25)) w_completed := by
  have S := sc_completed
  exact (dss_cons (ds_expr (de_fn h_need_reader hr (by decide) rfl (da_cons (de_var (i := 0) rfl (.inl rfl)) da_nil)))
    (dss_cons (ds_expr (de_fn h_need_base hr (by decide) rfl (da_cons (de_var (i := 1) rfl (.inl rfl)) da_nil)))
    (dss_cons (ds_expr (de_fn h_need_number hr (by decide) rfl (da_cons (de_var (i := 2) rfl (.inl rfl)) da_nil)))
    (dss_cons (ds_if (dt_not (dt_val (de_fn h_is_tail hr (by decide) rfl (da_cons (de_var (i := 1) rfl (.inl rfl)) (da_cons (de_var (i := 3) rfl (.inl rfl)) da_nil))))) (dss_one (ds_never)) dss_nil)
    (dss_one (ds_ret (de_fn h_completed_in hr (by decide) rfl (da_cons (de_var (i := 0) rfl (.inl rfl)) (da_cons (de_var (i := 1) rfl (.inl rfl)) (da_cons (de_var (i := 2) rfl (.inl rfl)) (da_cons (de_var (i := 3) rfl (.inl rfl)) da_nil)))))))))))
theorem sc__law_mixed : FnScope ["cell", "k"] ["cell", "k"] (defScope (top 27)) := ⟨rfl, rfl, rfl, by decide +kernel, rfl, by decide +kernel, by decide +kernel⟩
theorem d__law_mixed (m_int : mg "int" = none) {f : Addr} {cdv : Value} {A : Around} {outer : List Env} {s : Shared} {H : Hp} {E : XK} (hr : RoomG 0 (A.deeper (envOfC "_law_mixed" (defScope (top 27)) s.heap.objs.size f cdv))) :
    DSs (cxOf (L2.CX P wd) P wd K mg base ["cell", "k"] "_law_mixed" (defScope (top 27)) f cdv A outer s H E) (defBody (top 27)) w__law_mixed := by
  have S := sc__law_mixed
  exact (dss_cons (ds_set (i := 0) S.nd rfl (.inl rfl) (de_bin bop_mod (de_callTy (cal_int) rfl m_int (by decide +kernel) (da_cons (de_var (i := 0) rfl (.inl rfl)) da_nil)) (de_int)))
    (dss_one (ds_ret (de_bin bop_mod (de_bin bop_mul (de_bin bop_mod (de_bin bop_add (de_bin bop_add (de_bin bop_mul (de_var (i := 0) rfl (.inl rfl)) (de_bin bop_add (de_int) (de_bin bop_mul (de_bin bop_mul (de_int) (de_var (i := 1) rfl (.inl rfl))) (de_var (i := 1) rfl (.inl rfl))))) (de_bin bop_mul (de_int) (de_var (i := 1) rfl (.inl rfl)))) (de_int)) (de_int)) (de_int)) (de_int)))))
theorem sc__law_begin : FnScope ["script", "cells", "cell"] ["script"] (defScope (top 28)) := ⟨rfl, rfl, rfl, by decide +kernel, rfl, by decide +kernel, by decide +kernel⟩
theorem d__law_begin (m_list : mg "list" = none) {f : Addr} {cdv : Value} {A : Around} {outer : List Env} {s : Shared} {H : Hp} {E : XK} (hr : RoomG 0 (A.deeper (envOfC "_law_begin" (defScope (top 28)) s.heap.objs.size f cdv))) :
    DSs (cxOf (L2.CX P wd) P wd K mg base ["script", "cells", "cell"] "_law_begin" (defScope (top 28)) f cdv A outer s H E) (defBody (top 28)) w__law_begin := by
  have S := sc__law_begin
  exact (dss_cons (ds_set (i := 1) S.nd rfl (.inl rfl) (de_if (dt_cmp (bop_ne hr.units) (de_var (i := 0) rfl (.inl rfl)) (de_lst da_nil) (nomark _)) (de_callTy (cal_list) rfl m_list (by decide +kernel) (da_cons (de_var (i := 0) rfl (.inl rfl)) da_nil)) (de_lst (da_cons (de_int) da_nil))))
    (dss_one (ds_ret (de_dict (dd_cons (de_str) (de_var (i := 1) rfl (.inl rfl)) (dd_cons (de_str) (de_lc rfl S.nd (di_val (de_var (i := 1) rfl (.inl rfl))) (blkOk_by (own := [("cell", 2)]) (by kernel_rfl)) (fun _ _ _ _ _ => (pg_name (i := 2) S.nd rfl (.inl rfl))) tgd_name (fun _ _ _ _ _ => dts_nil) (fun _ _ _ _ _ => (de_if (dt_cmp bop_ge (de_var (i := 2) rfl (.inl rfl)) (de_bin bop_pow (de_int) (de_int)) (nomark _)) (de_var (i := 2) rfl (.inl rfl)) (de_int)))) (dd_cons (de_str) (de_int) dd_nil))) (by rfl) (by rfl) (fun z => by cases z) (by decide)))))
theorem sc__law_draw : FnScope ["state", "many", "at", "place", "left", "number"] ["state", "many"] (defScope (top 29)) := ⟨rfl, rfl, rfl, by decide +kernel, rfl, by decide +kernel, by decide +kernel⟩
theorem d__law_draw (h__law_mixed : Has P wd K mg base "_law_mixed" 1 ["cell", "k"] sp__law_mixed) (m_int : mg "int" = none) (m_len : mg "len" = none) {f : Addr} {cdv : Value} {A : Around} {outer : List Env} {s : Shared} {H : Hp} {E : XK} (hr : RoomG 1 (A.deeper (envOfC "_law_draw" (defScope (top 29)) s.heap.objs.size f cdv))) :
    DSs (cxOf (L2.CX P wd) P wd K mg base ["state", "many", "at", "place", "left", "number"] "_law_draw" (defScope (top 29)) f cdv A outer s H E) (defBody (top 29)) w__law_draw := by
  have S := sc__law_draw
  exact (dss_cons (ds_set (i := 2) S.nd rfl (.inl rfl) (de_at hr.units1 (de_var (i := 0) rfl (.inl rfl)) (de_str) (fun _ _ => rfl)))
    (dss_cons (ds_put hr.units1 (de_bin bop_add (de_var (i := 2) rfl (.inl rfl)) (de_int)) (de_var (i := 0) rfl (.inl rfl)) (de_str))
    (dss_cons (ds_set (i := 3) S.nd rfl (.inl rfl) (de_bin bop_mod (de_callTy (cal_int) rfl m_int (by decide +kernel) (da_cons (de_var (i := 2) rfl (.inl rfl)) da_nil)) (de_callB (cal_len) rfl m_len (by decide +kernel) (da_cons (de_at hr.units1 (de_var (i := 0) rfl (.inl rfl)) (de_str) (fun _ _ => rfl)) da_nil))))
    (dss_cons (ds_set (i := 4) S.nd rfl (.inl rfl) (de_at hr.units1 (de_at hr.units1 (de_var (i := 0) rfl (.inl rfl)) (de_str) (fun _ _ => rfl)) (de_var (i := 3) rfl (.inl rfl)) (fun _ _ => rfl)))
    (dss_cons (ds_if (dt_cmp bop_gt (de_var (i := 4) rfl (.inl rfl)) (de_int) (nomark _)) (dss_cons (ds_put hr.units1 (de_bin bop_div (de_var (i := 4) rfl (.inl rfl)) (de_var (i := 1) rfl (.inl rfl))) (de_at hr.units1 (de_var (i := 0) rfl (.inl rfl)) (de_str) (fun _ _ => rfl)) (de_var (i := 3) rfl (.inl rfl)))
    (dss_one (ds_ret (de_bin bop_mod (de_callTy (cal_int) rfl m_int (by decide +kernel) (da_cons (de_var (i := 4) rfl (.inl rfl)) da_nil)) (de_var (i := 1) rfl (.inl rfl)))))) dss_nil)
    (dss_cons (ds_set (i := 5) S.nd rfl (.inl rfl) (de_fn h__law_mixed hr (by decide) rfl (da_cons (de_fn h__law_mixed hr (by decide) rfl (da_cons (de_at hr.units1 (de_at hr.units1 (de_var (i := 0) rfl (.inl rfl)) (de_str) (fun _ _ => rfl)) (de_var (i := 3) rfl (.inl rfl)) (fun _ _ => rfl)) (da_cons (de_var (i := 2) rfl (.inl rfl)) da_nil))) (da_cons (de_bin bop_add (de_int) (de_var (i := 2) rfl (.inl rfl))) da_nil))))
    (dss_one (ds_ret (de_bin bop_mod (de_bin bop_div (de_callTy (cal_int) rfl m_int (by decide +kernel) (da_cons (de_bin bop_add (de_bin bop_mul (de_var (i := 5) rfl (.inl rfl)) (de_int)) (de_fn h__law_mixed hr (by decide) rfl (da_cons (de_var (i := 5) rfl (.inl rfl)) (da_cons (de_bin bop_add (de_int) (de_var (i := 2) rfl (.inl rfl))) da_nil)))) da_nil)) (de_int)) (de_var (i := 1) rfl (.inl rfl)))))))))))
theorem sc__law_digits : FnScope ["base", "number", "found"] ["base", "number"] (defScope (top 30)) := ⟨rfl, rfl, rfl, by decide +kernel, rfl, by decide +kernel, by decide +kernel⟩
theorem d__law_digits (m_int : mg "int" = none) {f : Addr} {cdv : Value} {A : Around} {outer : List Env} {s : Shared} {H : Hp} {E : XK} (hr : RoomG 0 (A.deeper (envOfC "_law_digits" (defScope (top 30)) s.heap.objs.size f cdv))) :
    DSs (cxOf (L2.CX P wd) P wd K mg base ["base", "number", "found"] "_law_digits" (defScope (top 30)) f cdv A outer s H E) (defBody (top 30)) w__law_digits := by
  have S := sc__law_digits
  exact (dss_cons (ds_set (i := 2) S.nd rfl (.inl rfl) (de_str))
    (dss_cons (ds_while (passes_of rfl) (dt_cmp bop_gt (de_var (i := 1) rfl (.inl rfl)) (de_int) (nomark _)) (dss_cons (ds_set (i := 2) S.nd rfl (.inl rfl) (de_bin bop_add (de_at hr.units1 (de_str) (de_bin bop_mod (de_callTy (cal_int) rfl m_int (by decide +kernel) (da_cons (de_var (i := 1) rfl (.inl rfl)) da_nil)) (de_var (i := 0) rfl (.inl rfl))) (fun _ _ => rfl)) (de_var (i := 2) rfl (.inl rfl))))
    (dss_one (ds_set (i := 1) S.nd rfl (.inl rfl) (de_bin bop_div (de_var (i := 1) rfl (.inl rfl)) (de_var (i := 0) rfl (.inl rfl)))))))
    (dss_one (ds_ret (de_var (i := 2) rfl (.inl rfl))))))
theorem sc__law_value : FnScope ["base", "text", "found", "sign"] ["base", "text"] (defScope (top 31)) := ⟨rfl, rfl, rfl, by decide +kernel, rfl, by decide +kernel, by decide +kernel⟩
theorem d__law_value  {f : Addr} {cdv : Value} {A : Around} {outer : List Env} {s : Shared} {H : Hp} {E : XK} (hr : RoomG 0 (A.deeper (envOfC "_law_value" (defScope (top 31)) s.heap.objs.size f cdv))) :
    DSs (cxOf (L2.CX P wd) P wd K mg base ["base", "text", "found", "sign"] "_law_value" (defScope (top 31)) f cdv A outer s H E) (defBody (top 31)) w__law_value := by
  have S := sc__law_value
  exact (dss_cons (ds_set (i := 2) S.nd rfl (.inl rfl) (de_int))
    (dss_cons (ds_for (passes_of rfl) rfl (di_val (de_var (i := 1) rfl (.inl rfl))) (dg_name (i := 3) S.nd rfl (.inl rfl)) (dss_one (ds_set (i := 2) S.nd rfl (.inl rfl) (de_bin bop_add (de_bin bop_mul (de_var (i := 2) rfl (.inl rfl)) (de_var (i := 0) rfl (.inl rfl))) (de_met PySem.F.plainAttrs_str PySem.F.slot_str_index PySem.F.type_str_index met_sindex (de_str) (da_cons (de_var (i := 3) rfl (.inl rfl)) da_nil))))))
    (dss_one (ds_ret (de_var (i := 2) rfl (.inl rfl))))))
theorem sc__law_power : FnScope ["base", "many", "found", "turn"] ["base", "many"] (defScope (top 32)) := ⟨rfl, rfl, rfl, by decide +kernel, rfl, by decide +kernel, by decide +kernel⟩
theorem d__law_power (m_range : mg "range" = none) {f : Addr} {cdv : Value} {A : Around} {outer : List Env} {s : Shared} {H : Hp} {E : XK} (hr : RoomG 0 (A.deeper (envOfC "_law_power" (defScope (top 32)) s.heap.objs.size f cdv))) :
    DSs (cxOf (L2.CX P wd) P wd K mg base ["base", "many", "found", "turn"] "_law_power" (defScope (top 32)) f cdv A outer s H E) (defBody (top 32)) w__law_power := by
  have S := sc__law_power
  exact (dss_cons (ds_set (i := 2) S.nd rfl (.inl rfl) (de_int))
    (dss_cons (ds_for (passes_of rfl) rfl (di_range1 rfl m_range (da_cons (de_var (i := 1) rfl (.inl rfl)) da_nil)) (dg_name (i := 3) S.nd rfl (.inl rfl)) (dss_one (ds_set (i := 2) S.nd rfl (.inl rfl) (de_bin bop_mul (de_var (i := 2) rfl (.inl rfl)) (de_var (i := 0) rfl (.inl rfl))))))
    (dss_one (ds_ret (de_var (i := 2) rfl (.inl rfl))))))
theorem sc__law_completed : FnScope ["reader", "base", "first", "tail", "value", "size", "text"] ["reader", "base", "first", "tail"] (defScope (top 33)) := ⟨rfl, rfl, rfl, by decide +kernel, rfl, by decide +kernel, by decide +kernel⟩
theorem d__law_completed (h__law_digits : Has P wd K mg base "_law_digits" 1 ["base", "number"] sp__law_digits) (h__law_power : Has P wd K mg base "_law_power" 1 ["base", "many"] sp__law_power) (h__law_value : Has P wd K mg base "_law_value" 1 ["base", "text"] sp__law_value) (m_int : mg "int" = none) (m_len : mg "len" = none) {f : Addr} {cdv : Value} {A : Around} {outer : List Env} {s : Shared} {H : Hp} {E : XK} (hr : RoomG 1 (A.deeper (envOfC "_law_completed" (defScope (top 33)) s.heap.objs.size f cdv))) :
    DSs (cxOf (L2.CX P wd) P wd K mg base ["reader", "base", "first", "tail", "value", "size", "text"] "_law_completed" (defScope (top 33)) f cdv A outer s H E) (defBody (top 33)) w__law_completed := by
  have S := sc__law_completed
  exact (dss_cons (ds_par (i := 4) (j := 5) rfl S.nd rfl rfl (by decide) rfl rfl (da_cons (de_fn h__law_value hr (by decide) rfl (da_cons (de_var (i := 1) rfl (.inl rfl)) (da_cons (de_var (i := 3) rfl (.inl rfl)) da_nil))) (da_cons (de_fn h__law_power hr (by decide) rfl (da_cons (de_var (i := 1) rfl (.inl rfl)) (da_cons (de_callB (cal_len) rfl m_len (by decide +kernel) (da_cons (de_var (i := 3) rfl (.inl rfl)) da_nil)) da_nil))) da_nil)) (by rfl))
    (dss_cons (ds_if (dt_cmp (bop_eq hr.units) (de_var (i := 0) rfl (.inl rfl)) (de_str) (nomark _)) (dss_one (ds_ret (de_bin bop_add (de_bin bop_add (de_var (i := 2) rfl (.inl rfl)) (de_int)) (de_bin bop_mod (de_callTy (cal_int) rfl m_int (by decide +kernel) (da_cons (de_bin bop_sub (de_bin bop_sub (de_var (i := 4) rfl (.inl rfl)) (de_var (i := 2) rfl (.inl rfl))) (de_int)) da_nil)) (de_var (i := 5) rfl (.inl rfl)))))) dss_nil)
    (dss_cons (ds_set (i := 6) S.nd rfl (.inl rfl) (de_fn h__law_digits hr (by decide) rfl (da_cons (de_var (i := 1) rfl (.inl rfl)) (da_cons (de_var (i := 2) rfl (.inl rfl)) da_nil))))
    (dss_cons (ds_if (dt_cmp bop_gt (de_callB (cal_len) rfl m_len (by decide +kernel) (da_cons (de_var (i := 6) rfl (.inl rfl)) da_nil)) (de_callB (cal_len) rfl m_len (by decide +kernel) (da_cons (de_var (i := 3) rfl (.inl rfl)) da_nil)) (nomark _)) (dss_one (ds_set (i := 4) S.nd rfl (.inl rfl) (de_fn h__law_value hr (by decide) rfl (da_cons (de_var (i := 1) rfl (.inl rfl)) (da_cons (de_bin bop_add (de_slice (de_var (i := 6) rfl (.inl rfl)) do_none (do_some (de_bin bop_sub (de_callB (cal_len) rfl m_len (by decide +kernel) (da_cons (de_var (i := 6) rfl (.inl rfl)) da_nil)) (de_callB (cal_len) rfl m_len (by decide +kernel) (da_cons (de_var (i := 3) rfl (.inl rfl)) da_nil))))) (de_var (i := 3) rfl (.inl rfl))) da_nil))))) (dss_one (ds_if (dt_cmp (bop_eq hr.units) (de_at hr.units1 (de_var (i := 3) rfl (.inl rfl)) (de_int) (fun _ _ => rfl)) (de_str) (nomark _)) (dss_one (ds_ret (de_non))) dss_nil)))
    (dss_one (ds_ret (de_if (dt_cmp bop_gt (de_var (i := 4) rfl (.inl rfl)) (de_var (i := 2) rfl (.inl rfl)) (nomark _)) (de_var (i := 4) rfl (.inl rfl)) (de_non))))))))
theorem sc__law_number : FnScope ["state", "base", "many", "found", "k"] ["state", "base", "many"] (defScope (top 34)) := ⟨rfl, rfl, rfl, by decide +kernel, rfl, by decide +kernel, by decide +kernel⟩
theorem d__law_number (h__law_draw : Has P wd K mg base "_law_draw" 2 ["state", "many"] sp__law_draw) (m_max : mg "max" = none) (m_range : mg "range" = none) {f : Addr} {cdv : Value} {A : Around} {outer : List Env} {s : Shared} {H : Hp} {E : XK} (hr : RoomG 2 (A.deeper (envOfC "_law_number" (defScope (top 34)) s.heap.objs.size f cdv))) :
    DSs (cxOf (L2.CX P wd) P wd K mg base ["state", "base", "many", "found", "k"] "_law_number" (defScope (top 34)) f cdv A outer s H E) (defBody (top 34)) w__law_number := by
  have S := sc__law_number
  exact (dss_cons (ds_set (i := 3) S.nd rfl (.inl rfl) (de_int))
    (dss_cons (ds_for (passes_of rfl) rfl (di_range1 rfl m_range (da_cons (de_bin bop_add (de_int) (de_fn h__law_draw hr (by decide) rfl (da_cons (de_var (i := 0) rfl (.inl rfl)) (da_cons (de_var (i := 2) rfl (.inl rfl)) da_nil)))) da_nil)) (dg_name (i := 4) S.nd rfl (.inl rfl)) (dss_one (ds_set (i := 3) S.nd rfl (.inl rfl) (de_bin bop_add (de_bin bop_mul (de_var (i := 3) rfl (.inl rfl)) (de_var (i := 1) rfl (.inl rfl))) (de_at hr.units1 (de_lst (da_cons (de_fn h__law_draw hr (by decide) rfl (da_cons (de_var (i := 0) rfl (.inl rfl)) (da_cons (de_var (i := 1) rfl (.inl rfl)) da_nil))) (da_cons (de_int) (da_cons (de_bin bop_sub (de_var (i := 1) rfl (.inl rfl)) (de_int)) da_nil)))) (de_fn h__law_draw hr (by decide) rfl (da_cons (de_var (i := 0) rfl (.inl rfl)) (da_cons (de_int) da_nil))) (fun _ _ => rfl))))))
    (dss_one (ds_ret (de_callB (cal_max2 rfl) rfl m_max (by decide +kernel) (da_cons (de_int) (da_cons (de_var (i := 3) rfl (.inl rfl)) da_nil)))))))
theorem sc__law_tail_of : FnScope ["state", "base", "first", "text", "way", "k"] ["state", "base", "first"] (defScope (top 35)) := ⟨rfl, rfl, rfl, by decide +kernel, rfl, by decide +kernel, by decide +kernel⟩
theorem d__law_tail_of (h__law_digits : Has P wd K mg base "_law_digits" 1 ["base", "number"] sp__law_digits) (h__law_draw : Has P wd K mg base "_law_draw" 2 ["state", "many"] sp__law_draw) (m_len : mg "len" = none) (m_range : mg "range" = none) {f : Addr} {cdv : Value} {A : Around} {outer : List Env} {s : Shared} {H : Hp} {E : XK} (hr : RoomG 2 (A.deeper (envOfC "_law_tail_of" (defScope (top 35)) s.heap.objs.size f cdv))) :
    DSs (cxOf (L2.CX P wd) P wd K mg base ["state", "base", "first", "text", "way", "k"] "_law_tail_of" (defScope (top 35)) f cdv A outer s H E) (defBody (top 35)) w__law_tail_of := by
  have S := sc__law_tail_of
  exact (dss_cons (ds_par (i := 3) (j := 4) rfl S.nd rfl rfl (by decide) rfl rfl (da_cons (de_str) (da_cons (de_fn h__law_draw hr (by decide) rfl (da_cons (de_var (i := 0) rfl (.inl rfl)) (da_cons (de_int) da_nil))) da_nil)) (by rfl))
    (dss_cons (ds_if (dt_cmp (bop_eq hr.units) (de_var (i := 4) rfl (.inl rfl)) (de_int) (nomark _)) (dss_cons (ds_for (passes_of rfl) rfl (di_range1 rfl m_range (da_cons (de_bin bop_add (de_int) (de_fn h__law_draw hr (by decide) rfl (da_cons (de_var (i := 0) rfl (.inl rfl)) (da_cons (de_int) da_nil)))) da_nil)) (dg_name (i := 5) S.nd rfl (.inl rfl)) (dss_one (ds_set (i := 3) S.nd rfl (.inl rfl) (de_bin bop_add (de_var (i := 3) rfl (.inl rfl)) (de_at hr.units1 (de_str) (de_fn h__law_draw hr (by decide) rfl (da_cons (de_var (i := 0) rfl (.inl rfl)) (da_cons (de_var (i := 1) rfl (.inl rfl)) da_nil))) (fun _ _ => rfl))))))
    (dss_one (ds_ret (de_var (i := 3) rfl (.inl rfl))))) dss_nil)
    (dss_cons (ds_set (i := 3) S.nd rfl (.inl rfl) (de_fn h__law_digits hr (by decide) rfl (da_cons (de_var (i := 1) rfl (.inl rfl)) (da_cons (de_bin bop_add (de_bin bop_add (de_var (i := 2) rfl (.inl rfl)) (de_at hr.units1 (de_lst (da_cons (de_int) (da_cons (de_int) (da_cons (de_var (i := 1) rfl (.inl rfl)) (da_cons (de_bin bop_mul (de_bin bop_mul (de_int) (de_var (i := 1) rfl (.inl rfl))) (de_var (i := 1) rfl (.inl rfl))) da_nil))))) (de_fn h__law_draw hr (by decide) rfl (da_cons (de_var (i := 0) rfl (.inl rfl)) (da_cons (de_int) da_nil))) (fun _ _ => rfl))) (de_fn h__law_draw hr (by decide) rfl (da_cons (de_var (i := 0) rfl (.inl rfl)) (da_cons (de_int) da_nil)))) da_nil))))
    (dss_one (ds_ret (de_slice (de_var (i := 3) rfl (.inl rfl)) (do_some (de_bin bop_sub (de_bin bop_sub (de_callB (cal_len) rfl m_len (by decide +kernel) (da_cons (de_var (i := 3) rfl (.inl rfl)) da_nil)) (de_int)) (de_fn h__law_draw hr (by decide) rfl (da_cons (de_var (i := 0) rfl (.inl rfl)) (da_cons (de_callB (cal_len) rfl m_len (by decide +kernel) (da_cons (de_var (i := 3) rfl (.inl rfl)) da_nil)) da_nil))))) do_none))))))
theorem sc__law_right : FnScope ["base", "first", "tail", "close", "far", "due", "size", "text"] ["base", "first", "tail"] (defScope (top 36)) := ⟨rfl, rfl, rfl, by decide +kernel, rfl, by decide +kernel, by decide +kernel⟩
theorem d__law_right (h__law_completed : Has P wd K mg base "_law_completed" 2 ["reader", "base", "first", "tail"] sp__law_completed) (h__law_digits : Has P wd K mg base "_law_digits" 1 ["base", "number"] sp__law_digits) (h__law_power : Has P wd K mg base "_law_power" 1 ["base", "many"] sp__law_power) (h__law_value : Has P wd K mg base "_law_value" 1 ["base", "text"] sp__law_value) (h_completed : Has P wd K mg base "completed" 3 ["reader", "base", "first", "tail"] sp_completed) (m_int : mg "int" = none) (m_len : mg "len" = none) (m_repr : mg "repr" = none) {f : Addr} {cdv : Value} {A : Around} {outer : List Env} {s : Shared} {H : Hp} {E : XK} (hr : RoomG 3 (A.deeper (envOfC "_law_right" (defScope (top 36)) s.heap.objs.size f cdv))) :
    DSs (cxOf (L2.CX P wd) P wd K mg base ["base", "first", "tail", "close", "far", "due", "size", "text"] "_law_right" (defScope (top 36)) f cdv A outer s H E) (defBody (top 36)) w__law_right := by
  have S := sc__law_right
  exact (dss_cons (ds_par (i := 3) (j := 4) rfl S.nd rfl rfl (by decide) rfl rfl (da_cons (de_fn h_completed hr (by decide) rfl (da_cons (de_str) (da_cons (de_var (i := 0) rfl (.inl rfl)) (da_cons (de_var (i := 1) rfl (.inl rfl)) (da_cons (de_var (i := 2) rfl (.inl rfl)) da_nil))))) (da_cons (de_fn h_completed hr (by decide) rfl (da_cons (de_str) (da_cons (de_var (i := 0) rfl (.inl rfl)) (da_cons (de_var (i := 1) rfl (.inl rfl)) (da_cons (de_var (i := 2) rfl (.inl rfl)) da_nil))))) da_nil)) (by rfl))
    (dss_cons (ds_set (i := 5) S.nd rfl (.inl rfl) (de_lst (da_cons (de_fn h__law_completed hr (by decide) rfl (da_cons (de_str) (da_cons (de_var (i := 0) rfl (.inl rfl)) (da_cons (de_var (i := 1) rfl (.inl rfl)) (da_cons (de_var (i := 2) rfl (.inl rfl)) da_nil))))) (da_cons (de_fn h__law_completed hr (by decide) rfl (da_cons (de_str) (da_cons (de_var (i := 0) rfl (.inl rfl)) (da_cons (de_var (i := 1) rfl (.inl rfl)) (da_cons (de_var (i := 2) rfl (.inl rfl)) da_nil))))) da_nil))))
    (dss_cons (ds_if (dt_cmp (bop_ne hr.units) (de_callB (cal_repr hr.gd hr.u65) rfl m_repr (by decide +kernel) (da_cons (de_lst (da_cons (de_var (i := 3) rfl (.inl rfl)) (da_cons (de_var (i := 4) rfl (.inl rfl)) da_nil))) da_nil)) (de_callB (cal_repr hr.gd hr.u65) rfl m_repr (by decide +kernel) (da_cons (de_var (i := 5) rfl (.inl rfl)) da_nil)) (nomark _)) (dss_one (ds_ret (de_bl))) dss_nil)
    (dss_cons (ds_par (i := 6) (j := 7) rfl S.nd rfl rfl (by decide) rfl rfl (da_cons (de_fn h__law_power hr (by decide) rfl (da_cons (de_var (i := 0) rfl (.inl rfl)) (da_cons (de_callB (cal_len) rfl m_len (by decide +kernel) (da_cons (de_var (i := 2) rfl (.inl rfl)) da_nil)) da_nil))) (da_cons (de_fn h__law_digits hr (by decide) rfl (da_cons (de_var (i := 0) rfl (.inl rfl)) (da_cons (de_var (i := 1) rfl (.inl rfl)) da_nil))) da_nil)) (by rfl))
    (dss_cons (ds_if (DWt.dt (dw_or (dt_cmp bop_le (de_var (i := 3) rfl (.inl rfl)) (de_var (i := 1) rfl (.inl rfl)) (nomark _)) (dw_or (dt_cmp bop_gt (de_var (i := 3) rfl (.inl rfl)) (de_bin bop_add (de_var (i := 1) rfl (.inl rfl)) (de_var (i := 6) rfl (.inl rfl))) (nomark _)) (dw_or1 (dt_cmp (bop_ne hr.units) (de_bin bop_mod (de_callTy (cal_int) rfl m_int (by decide +kernel) (da_cons (de_var (i := 3) rfl (.inl rfl)) da_nil)) (de_var (i := 6) rfl (.inl rfl))) (de_fn h__law_value hr (by decide) rfl (da_cons (de_var (i := 0) rfl (.inl rfl)) (da_cons (de_var (i := 2) rfl (.inl rfl)) da_nil))) (nomark _)))))) (dss_one (ds_ret (de_bl))) dss_nil)
    (dss_cons (ds_if (dt_cmp bop_lt (de_callB (cal_len) rfl m_len (by decide +kernel) (da_cons (de_var (i := 2) rfl (.inl rfl)) da_nil)) (de_callB (cal_len) rfl m_len (by decide +kernel) (da_cons (de_var (i := 7) rfl (.inl rfl)) da_nil)) (nomark _)) (dss_one (ds_ret ((de_and (de_cmp (bop_eq hr.units) (de_cmp (bop_eq hr.units) (de_var (i := 4) rfl (.inl rfl)) (de_var (i := 3) rfl (.inl rfl)) (nomark _)) (de_cmp bop_gt (de_var (i := 2) rfl (.inl rfl)) (de_slice (de_var (i := 7) rfl (.inl rfl)) (do_some (de_bin bop_sub (de_callB (cal_len) rfl m_len (by decide +kernel) (da_cons (de_var (i := 7) rfl (.inl rfl)) da_nil)) (de_callB (cal_len) rfl m_len (by decide +kernel) (da_cons (de_var (i := 2) rfl (.inl rfl)) da_nil)))) do_none) (nomark _)) (nomark _)) (de_one (de_cmp bop_in (de_var (i := 4) rfl (.inl rfl)) (de_tup (da_cons (de_var (i := 3) rfl (.inl rfl)) (da_cons (de_non) da_nil))) (by rfl))))))) dss_nil)
    (dss_one (ds_ret ((de_or (de_cmp bop_is (de_var (i := 4) rfl (.inl rfl)) (de_non) (nomark _)) (de_one (de_cmp (bop_eq hr.units) (de_fn h__law_digits hr (by decide) rfl (da_cons (de_var (i := 0) rfl (.inl rfl)) (da_cons (de_var (i := 4) rfl (.inl rfl)) da_nil))) (de_var (i := 2) rfl (.inl rfl)) (nomark _)))))))))))))
theorem sc_law : FnScope ["script", "state", "turn", "base", "first", "k", "tail"] ["script"] (defScope (top 37)) := ⟨rfl, rfl, rfl, by decide +kernel, rfl, by decide +kernel, by decide +kernel⟩
theorem d_law (h__law_begin : Has P wd K mg base "_law_begin" 1 ["script"] sp__law_begin) (h__law_draw : Has P wd K mg base "_law_draw" 2 ["state", "many"] sp__law_draw) (h__law_number : Has P wd K mg base "_law_number" 3 ["state", "base", "many"] sp__law_number) (h__law_right : Has P wd K mg base "_law_right" 4 ["base", "first", "tail"] sp__law_right) (h__law_tail_of : Has P wd K mg base "_law_tail_of" 3 ["state", "base", "first"] sp__law_tail_of) (m_len : mg "len" = none) (m_min : mg "min" = none) (m_range : mg "range" = none) {f : Addr} {cdv : Value} {A : Around} {outer : List Env} {s : Shared} {H : Hp} {E : XK} (hr : RoomG 4 (A.deeper (envOfC "law" (defScope (top 37)) s.heap.objs.size f cdv))) :
    DSs (cxOf (L2.CX P wd) P wd K mg base ["script", "state", "turn", "base", "first", "k", "tail"] "law" (defScope (top 37)) f cdv A outer s H E) (defBody (top 37)) w_law := by
  have S := sc_law
  exact (dss_cons (ds_set (i := 1) S.nd rfl (.inl rfl) (de_fn h__law_begin hr (by decide) rfl (da_cons (de_var (i := 0) rfl (.inl rfl)) da_nil)))
    (dss_cons (ds_for (passes_of rfl) rfl (di_range1 rfl m_range (da_cons (de_bin bop_add (de_int) (de_callB (cal_min2 rfl) rfl m_min (by decide +kernel) (da_cons (de_int) (da_cons (de_callB (cal_len) rfl m_len (by decide +kernel) (da_cons (de_var (i := 0) rfl (.inl rfl)) da_nil)) da_nil)))) da_nil)) (dg_name (i := 2) S.nd rfl (.inl rfl)) (dss_cons (ds_set (i := 3) S.nd rfl (.inl rfl) (de_bin bop_add (de_int) (de_fn h__law_draw hr (by decide) rfl (da_cons (de_var (i := 1) rfl (.inl rfl)) (da_cons (de_int) da_nil)))))
    (dss_cons (ds_set (i := 4) S.nd rfl (.inl rfl) (de_fn h__law_number hr (by decide) rfl (da_cons (de_var (i := 1) rfl (.inl rfl)) (da_cons (de_var (i := 3) rfl (.inl rfl)) (da_cons (de_at hr.units1 (de_lst (da_cons (de_int) (da_cons (de_int) (da_cons (de_int) (da_cons (de_int) da_nil))))) (de_fn h__law_draw hr (by decide) rfl (da_cons (de_var (i := 1) rfl (.inl rfl)) (da_cons (de_int) da_nil))) (fun _ _ => rfl)) da_nil)))))
    (dss_one (ds_for (passes_of rfl) rfl (di_range1 rfl m_range (da_cons (de_int) da_nil)) (dg_name (i := 5) S.nd rfl (.inl rfl)) (dss_cons (ds_set (i := 6) S.nd rfl (.inl rfl) (de_fn h__law_tail_of hr (by decide) rfl (da_cons (de_var (i := 1) rfl (.inl rfl)) (da_cons (de_var (i := 3) rfl (.inl rfl)) (da_cons (de_var (i := 4) rfl (.inl rfl)) da_nil)))))
    (dss_one (ds_if (dt_not (dt_val (de_fn h__law_right hr (by decide) rfl (da_cons (de_var (i := 3) rfl (.inl rfl)) (da_cons (de_var (i := 4) rfl (.inl rfl)) (da_cons (de_var (i := 6) rfl (.inl rfl)) da_nil)))))) (dss_one (ds_ret (de_bl))) dss_nil))))))))
    (dss_one (ds_ret (de_bl)))))
end
def dd_is_among : He.DefD := ⟨("is_among", none), "is_among", "is_among", defArgs (top 10), defBody (top 10), defScope (top 10), [], []⟩
def dd_is_number : He.DefD := ⟨("is_number", none), "is_number", "is_number", defArgs (top 11), defBody (top 11), defScope (top 11), [], []⟩
def dd_need_base : He.DefD := ⟨("need_base", none), "need_base", "need_base", defArgs (top 12), defBody (top 12), defScope (top 12), [], []⟩
def dd_need_number : He.DefD := ⟨("need_number", none), "need_number", "need_number", defArgs (top 13), defBody (top 13), defScope (top 13), [], []⟩
def dd_power : He.DefD := ⟨("power", none), "power", "power", defArgs (top 14), defBody (top 14), defScope (top 14), [], []⟩
def dd_are_digits : He.DefD := ⟨("are_digits", none), "are_digits", "are_digits", defArgs (top 15), defBody (top 15), defScope (top 15), [], []⟩
def dd_value_of : He.DefD := ⟨("value_of", none), "value_of", "value_of", defArgs (top 16), defBody (top 16), defScope (top 16), [], []⟩
def dd_length_of : He.DefD := ⟨("length_of", none), "length_of", "length_of", defArgs (top 17), defBody (top 17), defScope (top 17), [], []⟩
def dd_need_reader : He.DefD := ⟨("need_reader", none), "need_reader", "need_reader", defArgs (top 22), defBody (top 22), defScope (top 22), [], []⟩
def dd_is_tail : He.DefD := ⟨("is_tail", none), "is_tail", "is_tail", defArgs (top 23), defBody (top 23), defScope (top 23), [], []⟩
def dd_completed_in : He.DefD := ⟨("completed_in", none), "completed_in", "completed_in", defArgs (top 24), defBody (top 24), defScope (top 24), [], []⟩
def dd_completed : He.DefD := ⟨("completed", none), "completed", "completed", defArgs (top 25), defBody (top 25), defScope (top 25), [], []⟩
def dd__law_mixed : He.DefD := ⟨("_law_mixed", none), "_law_mixed", "_law_mixed", defArgs (top 27), defBody (top 27), defScope (top 27), [], []⟩
def dd__law_begin : He.DefD := ⟨("_law_begin", none), "_law_begin", "_law_begin", defArgs (top 28), defBody (top 28), defScope (top 28), [], []⟩
def dd__law_draw : He.DefD := ⟨("_law_draw", none), "_law_draw", "_law_draw", defArgs (top 29), defBody (top 29), defScope (top 29), [], []⟩
def dd__law_digits : He.DefD := ⟨("_law_digits", none), "_law_digits", "_law_digits", defArgs (top 30), defBody (top 30), defScope (top 30), [], []⟩
def dd__law_value : He.DefD := ⟨("_law_value", none), "_law_value", "_law_value", defArgs (top 31), defBody (top 31), defScope (top 31), [], []⟩
def dd__law_power : He.DefD := ⟨("_law_power", none), "_law_power", "_law_power", defArgs (top 32), defBody (top 32), defScope (top 32), [], []⟩
def dd__law_completed : He.DefD := ⟨("_law_completed", none), "_law_completed", "_law_completed", defArgs (top 33), defBody (top 33), defScope (top 33), [], []⟩
def dd__law_number : He.DefD := ⟨("_law_number", none), "_law_number", "_law_number", defArgs (top 34), defBody (top 34), defScope (top 34), [], []⟩
def dd__law_tail_of : He.DefD := ⟨("_law_tail_of", none), "_law_tail_of", "_law_tail_of", defArgs (top 35), defBody (top 35), defScope (top 35), [], []⟩
def dd__law_right : He.DefD := ⟨("_law_right", none), "_law_right", "_law_right", defArgs (top 36), defBody (top 36), defScope (top 36), [], []⟩
def dd_law : He.DefD := ⟨("law", none), "law", "law", defArgs (top 37), defBody (top 37), defScope (top 37), [], []⟩
def fn : List He.DefD := [dd_is_among, dd_is_number, dd_need_base, dd_need_number, dd_power, dd_are_digits, dd_value_of, dd_length_of, dd_need_reader, dd_is_tail, dd_completed_in, dd_completed, dd__law_mixed, dd__law_begin, dd__law_draw, dd__law_digits, dd__law_value, dd__law_power, dd__law_completed, dd__law_number, dd__law_tail_of, dd__law_right, dd_law]
def fa : List He.Fa := [.glo "is_among", .glo "is_number", .glo "need_base", .glo "need_number", .glo "power", .glo "are_digits", .glo "value_of", .glo "length_of", .glo "need_reader", .glo "is_tail", .glo "completed_in", .glo "completed", .glo "_law_mixed", .glo "_law_begin", .glo "_law_draw", .glo "_law_digits", .glo "_law_value", .glo "_law_power", .glo "_law_completed", .glo "_law_number", .glo "_law_tail_of", .glo "_law_right", .glo "law", .str "FIGURES" "0123456789", .int "LEAST_BASE" 2, .int "MOST_BASE" 10, .int "MOST_DIGITS" 1000, .str "NEXT" "next", .glo "READERS", .free "all", .free "bool", .free "int", .free "isinstance", .free "len", .free "list", .free "max", .free "min", .free "range", .free "repr", .free "str"]
def tp : Tups := [("READERS", [.str "replace", .str "next"])]
abbrev R : PySem.W.OpenRow := PySem.W.OpenLaw.row PySem.Challenge.rw_shortspans_k09_whole_tails_completed
abbrev hk : PySem.W.Hook := hookZ 4 fa fn tp
def ob (s : PySem.W.SharedT) : He.AlD := obsZ fa fn tp (He.frG (HandSHeadRun.getT s) (He.asD (HandSHeadRun.getT s) 4))
theorem ob_eq (s : PySem.W.SharedT) : ob s = hk.obs s.abs := obsZ_eq (HandSHeadRun.getT_eq s)
def loose : List Str := (["SpanError", "BadBase", "BadNumber", "BadDigits", "BadReader", "FIGURES", "LEAST_BASE", "MOST_BASE", "is_among", "is_number"] : List Str) ++ (["need_base", "need_number", "power", "are_digits", "value_of", "length_of", "READERS", "NEXT", "MOST_DIGITS", "need_reader"] : List Str) ++ (["is_tail", "completed_in", "completed", "_law_mixed", "_law_begin", "_law_draw", "_law_digits", "_law_value", "_law_power", "_law_completed"] : List Str) ++ (["_law_number", "_law_tail_of", "_law_right"] : List Str)
theorem run (w : World) : HandSHeadRun.RunEq R (PySem.W.view R.prog [37]) hk ob 3000 loose w := by
  intro os
  kernel_rfl
theorem len_is_among : ∀ ds ah q x, sp_is_among ds ah q x → ds.length = 3 := by
  first
  | (rintro _ _ _ _ ⟨_, rfl, _⟩; rfl)
  | (rintro _ _ _ _ ⟨_, _, rfl, _⟩; rfl)
  | (rintro _ _ _ _ ⟨_, _, _, rfl, _⟩; rfl)
  | (rintro _ _ _ _ ⟨_, _, _, _, rfl, _⟩; rfl)
  | (rintro _ _ _ _ ⟨_, _, _, _, ⟨rfl, _⟩, _⟩; rfl)
theorem len_is_number : ∀ ds ah q x, sp_is_number ds ah q x → ds.length = 1 := by
  first
  | (rintro _ _ _ _ ⟨_, rfl, _⟩; rfl)
  | (rintro _ _ _ _ ⟨_, _, rfl, _⟩; rfl)
  | (rintro _ _ _ _ ⟨_, _, _, rfl, _⟩; rfl)
  | (rintro _ _ _ _ ⟨_, _, _, _, rfl, _⟩; rfl)
  | (rintro _ _ _ _ ⟨_, _, _, _, ⟨rfl, _⟩, _⟩; rfl)
theorem len_need_base : ∀ ds ah q x, sp_need_base ds ah q x → ds.length = 1 := by
  first
  | (rintro _ _ _ _ ⟨_, rfl, _⟩; rfl)
  | (rintro _ _ _ _ ⟨_, _, rfl, _⟩; rfl)
  | (rintro _ _ _ _ ⟨_, _, _, rfl, _⟩; rfl)
  | (rintro _ _ _ _ ⟨_, _, _, _, rfl, _⟩; rfl)
  | (rintro _ _ _ _ ⟨_, _, _, _, ⟨rfl, _⟩, _⟩; rfl)
theorem len_need_number : ∀ ds ah q x, sp_need_number ds ah q x → ds.length = 1 := by
  first
  | (rintro _ _ _ _ ⟨_, rfl, _⟩; rfl)
  | (rintro _ _ _ _ ⟨_, _, rfl, _⟩; rfl)
  | (rintro _ _ _ _ ⟨_, _, _, rfl, _⟩; rfl)
  | (rintro _ _ _ _ ⟨_, _, _, _, rfl, _⟩; rfl)
  | (rintro _ _ _ _ ⟨_, _, _, _, ⟨rfl, _⟩, _⟩; rfl)
theorem len_power : ∀ ds ah q x, sp_power ds ah q x → ds.length = 2 := by
  first
  | (rintro _ _ _ _ ⟨_, rfl, _⟩; rfl)
  | (rintro _ _ _ _ ⟨_, _, rfl, _⟩; rfl)
  | (rintro _ _ _ _ ⟨_, _, _, rfl, _⟩; rfl)
  | (rintro _ _ _ _ ⟨_, _, _, _, rfl, _⟩; rfl)
  | (rintro _ _ _ _ ⟨_, _, _, _, ⟨rfl, _⟩, _⟩; rfl)
theorem len_are_digits : ∀ ds ah q x, sp_are_digits ds ah q x → ds.length = 2 := by
  first
  | (rintro _ _ _ _ ⟨_, rfl, _⟩; rfl)
  | (rintro _ _ _ _ ⟨_, _, rfl, _⟩; rfl)
  | (rintro _ _ _ _ ⟨_, _, _, rfl, _⟩; rfl)
  | (rintro _ _ _ _ ⟨_, _, _, _, rfl, _⟩; rfl)
  | (rintro _ _ _ _ ⟨_, _, _, _, ⟨rfl, _⟩, _⟩; rfl)
theorem len_value_of : ∀ ds ah q x, sp_value_of ds ah q x → ds.length = 2 := by
  first
  | (rintro _ _ _ _ ⟨_, rfl, _⟩; rfl)
  | (rintro _ _ _ _ ⟨_, _, rfl, _⟩; rfl)
  | (rintro _ _ _ _ ⟨_, _, _, rfl, _⟩; rfl)
  | (rintro _ _ _ _ ⟨_, _, _, _, rfl, _⟩; rfl)
  | (rintro _ _ _ _ ⟨_, _, _, _, ⟨rfl, _⟩, _⟩; rfl)
theorem len_length_of : ∀ ds ah q x, sp_length_of ds ah q x → ds.length = 2 := by
  first
  | (rintro _ _ _ _ ⟨_, rfl, _⟩; rfl)
  | (rintro _ _ _ _ ⟨_, _, rfl, _⟩; rfl)
  | (rintro _ _ _ _ ⟨_, _, _, rfl, _⟩; rfl)
  | (rintro _ _ _ _ ⟨_, _, _, _, rfl, _⟩; rfl)
  | (rintro _ _ _ _ ⟨_, _, _, _, ⟨rfl, _⟩, _⟩; rfl)
theorem len_need_reader : ∀ ds ah q x, sp_need_reader ds ah q x → ds.length = 1 := by
  first
  | (rintro _ _ _ _ ⟨_, rfl, _⟩; rfl)
  | (rintro _ _ _ _ ⟨_, _, rfl, _⟩; rfl)
  | (rintro _ _ _ _ ⟨_, _, _, rfl, _⟩; rfl)
  | (rintro _ _ _ _ ⟨_, _, _, _, rfl, _⟩; rfl)
  | (rintro _ _ _ _ ⟨_, _, _, _, ⟨rfl, _⟩, _⟩; rfl)
theorem len_is_tail : ∀ ds ah q x, sp_is_tail ds ah q x → ds.length = 2 := by
  first
  | (rintro _ _ _ _ ⟨_, rfl, _⟩; rfl)
  | (rintro _ _ _ _ ⟨_, _, rfl, _⟩; rfl)
  | (rintro _ _ _ _ ⟨_, _, _, rfl, _⟩; rfl)
  | (rintro _ _ _ _ ⟨_, _, _, _, rfl, _⟩; rfl)
  | (rintro _ _ _ _ ⟨_, _, _, _, ⟨rfl, _⟩, _⟩; rfl)
theorem len_completed_in : ∀ ds ah q x, sp_completed_in ds ah q x → ds.length = 4 := by
  first
  | (rintro _ _ _ _ ⟨_, rfl, _⟩; rfl)
  | (rintro _ _ _ _ ⟨_, _, rfl, _⟩; rfl)
  | (rintro _ _ _ _ ⟨_, _, _, rfl, _⟩; rfl)
  | (rintro _ _ _ _ ⟨_, _, _, _, rfl, _⟩; rfl)
  | (rintro _ _ _ _ ⟨_, _, _, _, ⟨rfl, _⟩, _⟩; rfl)
theorem len_completed : ∀ ds ah q x, sp_completed ds ah q x → ds.length = 4 := by
  first
  | (rintro _ _ _ _ ⟨_, rfl, _⟩; rfl)
  | (rintro _ _ _ _ ⟨_, _, rfl, _⟩; rfl)
  | (rintro _ _ _ _ ⟨_, _, _, rfl, _⟩; rfl)
  | (rintro _ _ _ _ ⟨_, _, _, _, rfl, _⟩; rfl)
  | (rintro _ _ _ _ ⟨_, _, _, _, ⟨rfl, _⟩, _⟩; rfl)
theorem len__law_mixed : ∀ ds ah q x, sp__law_mixed ds ah q x → ds.length = 2 := by
  first
  | (rintro _ _ _ _ ⟨_, rfl, _⟩; rfl)
  | (rintro _ _ _ _ ⟨_, _, rfl, _⟩; rfl)
  | (rintro _ _ _ _ ⟨_, _, _, rfl, _⟩; rfl)
  | (rintro _ _ _ _ ⟨_, _, _, _, rfl, _⟩; rfl)
  | (rintro _ _ _ _ ⟨_, _, _, _, ⟨rfl, _⟩, _⟩; rfl)
theorem len__law_begin : ∀ ds ah q x, sp__law_begin ds ah q x → ds.length = 1 := by
  first
  | (rintro _ _ _ _ ⟨_, rfl, _⟩; rfl)
  | (rintro _ _ _ _ ⟨_, _, rfl, _⟩; rfl)
  | (rintro _ _ _ _ ⟨_, _, _, rfl, _⟩; rfl)
  | (rintro _ _ _ _ ⟨_, _, _, _, rfl, _⟩; rfl)
  | (rintro _ _ _ _ ⟨_, _, _, _, ⟨rfl, _⟩, _⟩; rfl)
theorem len__law_draw : ∀ ds ah q x, sp__law_draw ds ah q x → ds.length = 2 := by
  first
  | (rintro _ _ _ _ ⟨_, rfl, _⟩; rfl)
  | (rintro _ _ _ _ ⟨_, _, rfl, _⟩; rfl)
  | (rintro _ _ _ _ ⟨_, _, _, rfl, _⟩; rfl)
  | (rintro _ _ _ _ ⟨_, _, _, _, rfl, _⟩; rfl)
  | (rintro _ _ _ _ ⟨_, _, _, _, ⟨rfl, _⟩, _⟩; rfl)
theorem len__law_digits : ∀ ds ah q x, sp__law_digits ds ah q x → ds.length = 2 := by
  first
  | (rintro _ _ _ _ ⟨_, rfl, _⟩; rfl)
  | (rintro _ _ _ _ ⟨_, _, rfl, _⟩; rfl)
  | (rintro _ _ _ _ ⟨_, _, _, rfl, _⟩; rfl)
  | (rintro _ _ _ _ ⟨_, _, _, _, rfl, _⟩; rfl)
  | (rintro _ _ _ _ ⟨_, _, _, _, ⟨rfl, _⟩, _⟩; rfl)
theorem len__law_value : ∀ ds ah q x, sp__law_value ds ah q x → ds.length = 2 := by
  first
  | (rintro _ _ _ _ ⟨_, rfl, _⟩; rfl)
  | (rintro _ _ _ _ ⟨_, _, rfl, _⟩; rfl)
  | (rintro _ _ _ _ ⟨_, _, _, rfl, _⟩; rfl)
  | (rintro _ _ _ _ ⟨_, _, _, _, rfl, _⟩; rfl)
  | (rintro _ _ _ _ ⟨_, _, _, _, ⟨rfl, _⟩, _⟩; rfl)
theorem len__law_power : ∀ ds ah q x, sp__law_power ds ah q x → ds.length = 2 := by
  first
  | (rintro _ _ _ _ ⟨_, rfl, _⟩; rfl)
  | (rintro _ _ _ _ ⟨_, _, rfl, _⟩; rfl)
  | (rintro _ _ _ _ ⟨_, _, _, rfl, _⟩; rfl)
  | (rintro _ _ _ _ ⟨_, _, _, _, rfl, _⟩; rfl)
  | (rintro _ _ _ _ ⟨_, _, _, _, ⟨rfl, _⟩, _⟩; rfl)
theorem len__law_completed : ∀ ds ah q x, sp__law_completed ds ah q x → ds.length = 4 := by
  first
  | (rintro _ _ _ _ ⟨_, rfl, _⟩; rfl)
  | (rintro _ _ _ _ ⟨_, _, rfl, _⟩; rfl)
  | (rintro _ _ _ _ ⟨_, _, _, rfl, _⟩; rfl)
  | (rintro _ _ _ _ ⟨_, _, _, _, rfl, _⟩; rfl)
  | (rintro _ _ _ _ ⟨_, _, _, _, ⟨rfl, _⟩, _⟩; rfl)
theorem len__law_number : ∀ ds ah q x, sp__law_number ds ah q x → ds.length = 3 := by
  first
  | (rintro _ _ _ _ ⟨_, rfl, _⟩; rfl)
  | (rintro _ _ _ _ ⟨_, _, rfl, _⟩; rfl)
  | (rintro _ _ _ _ ⟨_, _, _, rfl, _⟩; rfl)
  | (rintro _ _ _ _ ⟨_, _, _, _, rfl, _⟩; rfl)
  | (rintro _ _ _ _ ⟨_, _, _, _, ⟨rfl, _⟩, _⟩; rfl)
theorem len__law_tail_of : ∀ ds ah q x, sp__law_tail_of ds ah q x → ds.length = 3 := by
  first
  | (rintro _ _ _ _ ⟨_, rfl, _⟩; rfl)
  | (rintro _ _ _ _ ⟨_, _, rfl, _⟩; rfl)
  | (rintro _ _ _ _ ⟨_, _, _, rfl, _⟩; rfl)
  | (rintro _ _ _ _ ⟨_, _, _, _, rfl, _⟩; rfl)
  | (rintro _ _ _ _ ⟨_, _, _, _, ⟨rfl, _⟩, _⟩; rfl)
theorem len__law_right : ∀ ds ah q x, sp__law_right ds ah q x → ds.length = 3 := by
  first
  | (rintro _ _ _ _ ⟨_, rfl, _⟩; rfl)
  | (rintro _ _ _ _ ⟨_, _, rfl, _⟩; rfl)
  | (rintro _ _ _ _ ⟨_, _, _, rfl, _⟩; rfl)
  | (rintro _ _ _ _ ⟨_, _, _, _, rfl, _⟩; rfl)
  | (rintro _ _ _ _ ⟨_, _, _, _, ⟨rfl, _⟩, _⟩; rfl)
theorem len_law : ∀ ds ah q x, sp_law ds ah q x → ds.length = 1 := by
  first
  | (rintro _ _ _ _ ⟨_, rfl, _⟩; rfl)
  | (rintro _ _ _ _ ⟨_, _, rfl, _⟩; rfl)
  | (rintro _ _ _ _ ⟨_, _, _, rfl, _⟩; rfl)
  | (rintro _ _ _ _ ⟨_, _, _, _, rfl, _⟩; rfl)
  | (rintro _ _ _ _ ⟨_, _, _, _, ⟨rfl, _⟩, _⟩; rfl)
theorem facts {P : Program} {w : World} {K : PySem.W.Frag} {h : Heap} {mg : Str → Option Value} {f : Addr} (X : K.In h) (G : h.Ns mainGlobals mg) (hfa : mg ("law" : Str) = some (.ref f)) (c : SaysZ fa fn tp K) :
    ∃ fd : FuncData, (∀ (s : Shared) (v : Value), BindsTo s fd ⟨[v], []⟩ [("script", v)]) ∧ ∀ base : Heap, K.In base → base.Ns mainGlobals mg → DFn P w K mg base 5 f fd ["script"] sp_law := by
  have g_FIGURES := He.str_ok X G (c.d.fact 23 (f := .str "FIGURES" "0123456789") rfl)
  have g_LEAST_BASE := He.int_ok X G (c.d.fact 24 (f := .int "LEAST_BASE" 2) rfl)
  have g_MOST_BASE := He.int_ok X G (c.d.fact 25 (f := .int "MOST_BASE" 10) rfl)
  have g_MOST_DIGITS := He.int_ok X G (c.d.fact 26 (f := .int "MOST_DIGITS" 1000) rfl)
  have g_NEXT := He.str_ok X G (c.d.fact 27 (f := .str "NEXT" "next") rfl)
  have g_READERS := He.glo_ok X G (c.d.fact 28 (f := .glo "READERS") rfl)
  have m_all := He.free_ok X G (c.d.fact 29 (f := .free "all") rfl)
  have m_bool := He.free_ok X G (c.d.fact 30 (f := .free "bool") rfl)
  have m_int := He.free_ok X G (c.d.fact 31 (f := .free "int") rfl)
  have m_isinstance := He.free_ok X G (c.d.fact 32 (f := .free "isinstance") rfl)
  have m_len := He.free_ok X G (c.d.fact 33 (f := .free "len") rfl)
  have m_list := He.free_ok X G (c.d.fact 34 (f := .free "list") rfl)
  have m_max := He.free_ok X G (c.d.fact 35 (f := .free "max") rfl)
  have m_min := He.free_ok X G (c.d.fact 36 (f := .free "min") rfl)
  have m_range := He.free_ok X G (c.d.fact 37 (f := .free "range") rfl)
  have m_repr := He.free_ok X G (c.d.fact 38 (f := .free "repr") rfl)
  have m_str := He.free_ok X G (c.d.fact 39 (f := .free "str") rfl)
  have t_READERS : KTup K (He.ga K "READERS") ["replace", "next"] := c.tup (List.mem_of_getElem? (i := 0) rfl)
  obtain ⟨fd_is_among, F_is_among⟩ := c.d.def_ 0 (d := dd_is_among) rfl
  have e_is_among := He.glo_ok X G (c.d.fact 0 (f := .glo "is_among") rfl)
  have h_is_among : ∀ base : Heap, Has P w K mg base "is_among" 1 ["thing", "least", "most"] sp_is_among := fun base => mk_has F_is_among e_is_among (F_is_among.bindsN fun _ _ _ _ _ _ us hl => match us, hl with | [_, _, _], _ => rfl) sc_is_among len_is_among (fun cdv A outer s H E hr => d_is_among m_bool m_int m_isinstance hr) wp_is_among
  obtain ⟨fd_is_number, F_is_number⟩ := c.d.def_ 1 (d := dd_is_number) rfl
  have e_is_number := He.glo_ok X G (c.d.fact 1 (f := .glo "is_number") rfl)
  have h_is_number : ∀ base : Heap, Has P w K mg base "is_number" 1 ["thing"] sp_is_number := fun base => mk_has F_is_number e_is_number (F_is_number.bindsN fun _ _ _ _ _ _ us hl => match us, hl with | [_], _ => rfl) sc_is_number len_is_number (fun cdv A outer s H E hr => d_is_number m_bool m_int m_isinstance hr) wp_is_number
  obtain ⟨fd_need_base, F_need_base⟩ := c.d.def_ 2 (d := dd_need_base) rfl
  have e_need_base := He.glo_ok X G (c.d.fact 2 (f := .glo "need_base") rfl)
  have h_need_base : ∀ base : Heap, Has P w K mg base "need_base" 2 ["thing"] sp_need_base := fun base => mk_has F_need_base e_need_base (F_need_base.bindsN fun _ _ _ _ _ _ us hl => match us, hl with | [_], _ => rfl) sc_need_base len_need_base (fun cdv A outer s H E hr => d_need_base g_LEAST_BASE g_MOST_BASE (h_is_among base) hr) wp_need_base
  obtain ⟨fd_need_number, F_need_number⟩ := c.d.def_ 3 (d := dd_need_number) rfl
  have e_need_number := He.glo_ok X G (c.d.fact 3 (f := .glo "need_number") rfl)
  have h_need_number : ∀ base : Heap, Has P w K mg base "need_number" 2 ["thing"] sp_need_number := fun base => mk_has F_need_number e_need_number (F_need_number.bindsN fun _ _ _ _ _ _ us hl => match us, hl with | [_], _ => rfl) sc_need_number len_need_number (fun cdv A outer s H E hr => d_need_number (h_is_number base) hr) wp_need_number
  obtain ⟨fd_power, F_power⟩ := c.d.def_ 4 (d := dd_power) rfl
  have e_power := He.glo_ok X G (c.d.fact 4 (f := .glo "power") rfl)
  have h_power : ∀ base : Heap, Has P w K mg base "power" 1 ["base", "many"] sp_power := fun base => mk_has F_power e_power (F_power.bindsN fun _ _ _ _ _ _ us hl => match us, hl with | [_, _], _ => rfl) sc_power len_power (fun cdv A outer s H E hr => d_power m_range hr) wp_power
  obtain ⟨fd_are_digits, F_are_digits⟩ := c.d.def_ 5 (d := dd_are_digits) rfl
  have e_are_digits := He.glo_ok X G (c.d.fact 5 (f := .glo "are_digits") rfl)
  have h_are_digits : ∀ base : Heap, Has P w K mg base "are_digits" 1 ["base", "thing"] sp_are_digits := fun base => mk_has F_are_digits e_are_digits (F_are_digits.bindsN fun _ _ _ _ _ _ us hl => match us, hl with | [_, _], _ => rfl) sc_are_digits len_are_digits (fun cdv A outer s H E hr => d_are_digits g_FIGURES m_all m_isinstance m_str hr) wp_are_digits
  obtain ⟨fd_value_of, F_value_of⟩ := c.d.def_ 6 (d := dd_value_of) rfl
  have e_value_of := He.glo_ok X G (c.d.fact 6 (f := .glo "value_of") rfl)
  have h_value_of : ∀ base : Heap, Has P w K mg base "value_of" 1 ["base", "text"] sp_value_of := fun base => mk_has F_value_of e_value_of (F_value_of.bindsN fun _ _ _ _ _ _ us hl => match us, hl with | [_, _], _ => rfl) sc_value_of len_value_of (fun cdv A outer s H E hr => d_value_of g_FIGURES hr) wp_value_of
  obtain ⟨fd_length_of, F_length_of⟩ := c.d.def_ 7 (d := dd_length_of) rfl
  have e_length_of := He.glo_ok X G (c.d.fact 7 (f := .glo "length_of") rfl)
  have h_length_of : ∀ base : Heap, Has P w K mg base "length_of" 1 ["base", "number"] sp_length_of := fun base => mk_has F_length_of e_length_of (F_length_of.bindsN fun _ _ _ _ _ _ us hl => match us, hl with | [_, _], _ => rfl) sc_length_of len_length_of (fun cdv A outer s H E hr => d_length_of  hr) wp_length_of
  obtain ⟨fd_need_reader, F_need_reader⟩ := c.d.def_ 8 (d := dd_need_reader) rfl
  have e_need_reader := He.glo_ok X G (c.d.fact 8 (f := .glo "need_reader") rfl)
  have h_need_reader : ∀ base : Heap, Has P w K mg base "need_reader" 1 ["thing"] sp_need_reader := fun base => mk_has F_need_reader e_need_reader (F_need_reader.bindsN fun _ _ _ _ _ _ us hl => match us, hl with | [_], _ => rfl) sc_need_reader len_need_reader (fun cdv A outer s H E hr => d_need_reader g_READERS m_isinstance m_str t_READERS hr) wp_need_reader
  obtain ⟨fd_is_tail, F_is_tail⟩ := c.d.def_ 9 (d := dd_is_tail) rfl
  have e_is_tail := He.glo_ok X G (c.d.fact 9 (f := .glo "is_tail") rfl)
  have h_is_tail : ∀ base : Heap, Has P w K mg base "is_tail" 2 ["base", "thing"] sp_is_tail := fun base => mk_has F_is_tail e_is_tail (F_is_tail.bindsN fun _ _ _ _ _ _ us hl => match us, hl with | [_, _], _ => rfl) sc_is_tail len_is_tail (fun cdv A outer s H E hr => d_is_tail g_MOST_DIGITS (h_are_digits base) m_len hr) wp_is_tail
  obtain ⟨fd_completed_in, F_completed_in⟩ := c.d.def_ 10 (d := dd_completed_in) rfl
  have e_completed_in := He.glo_ok X G (c.d.fact 10 (f := .glo "completed_in") rfl)
  have h_completed_in : ∀ base : Heap, Has P w K mg base "completed_in" 2 ["reader", "base", "first", "tail"] sp_completed_in := fun base => mk_has F_completed_in e_completed_in (F_completed_in.bindsN fun _ _ _ _ _ _ us hl => match us, hl with | [_, _, _, _], _ => rfl) sc_completed_in len_completed_in (fun cdv A outer s H E hr => d_completed_in g_NEXT (h_length_of base) (h_power base) (h_value_of base) m_len hr) wp_completed_in
  obtain ⟨fd_completed, F_completed⟩ := c.d.def_ 11 (d := dd_completed) rfl
  have e_completed := He.glo_ok X G (c.d.fact 11 (f := .glo "completed") rfl)
  have h_completed : ∀ base : Heap, Has P w K mg base "completed" 3 ["reader", "base", "first", "tail"] sp_completed := fun base => mk_has F_completed e_completed (F_completed.bindsN fun _ _ _ _ _ _ us hl => match us, hl with | [_, _, _, _], _ => rfl) sc_completed len_completed (fun cdv A outer s H E hr => d_completed (h_completed_in base) (h_is_tail base) (h_need_base base) (h_need_number base) (h_need_reader base) hr) wp_completed
  obtain ⟨fd__law_mixed, F__law_mixed⟩ := c.d.def_ 12 (d := dd__law_mixed) rfl
  have e__law_mixed := He.glo_ok X G (c.d.fact 12 (f := .glo "_law_mixed") rfl)
  have h__law_mixed : ∀ base : Heap, Has P w K mg base "_law_mixed" 1 ["cell", "k"] sp__law_mixed := fun base => mk_has F__law_mixed e__law_mixed (F__law_mixed.bindsN fun _ _ _ _ _ _ us hl => match us, hl with | [_, _], _ => rfl) sc__law_mixed len__law_mixed (fun cdv A outer s H E hr => d__law_mixed m_int hr) wp__law_mixed
  obtain ⟨fd__law_begin, F__law_begin⟩ := c.d.def_ 13 (d := dd__law_begin) rfl
  have e__law_begin := He.glo_ok X G (c.d.fact 13 (f := .glo "_law_begin") rfl)
  have h__law_begin : ∀ base : Heap, Has P w K mg base "_law_begin" 1 ["script"] sp__law_begin := fun base => mk_has F__law_begin e__law_begin (F__law_begin.bindsN fun _ _ _ _ _ _ us hl => match us, hl with | [_], _ => rfl) sc__law_begin len__law_begin (fun cdv A outer s H E hr => d__law_begin m_list hr) wp__law_begin
  obtain ⟨fd__law_draw, F__law_draw⟩ := c.d.def_ 14 (d := dd__law_draw) rfl
  have e__law_draw := He.glo_ok X G (c.d.fact 14 (f := .glo "_law_draw") rfl)
  have h__law_draw : ∀ base : Heap, Has P w K mg base "_law_draw" 2 ["state", "many"] sp__law_draw := fun base => mk_has F__law_draw e__law_draw (F__law_draw.bindsN fun _ _ _ _ _ _ us hl => match us, hl with | [_, _], _ => rfl) sc__law_draw len__law_draw (fun cdv A outer s H E hr => d__law_draw (h__law_mixed base) m_int m_len hr) wp__law_draw
  obtain ⟨fd__law_digits, F__law_digits⟩ := c.d.def_ 15 (d := dd__law_digits) rfl
  have e__law_digits := He.glo_ok X G (c.d.fact 15 (f := .glo "_law_digits") rfl)
  have h__law_digits : ∀ base : Heap, Has P w K mg base "_law_digits" 1 ["base", "number"] sp__law_digits := fun base => mk_has F__law_digits e__law_digits (F__law_digits.bindsN fun _ _ _ _ _ _ us hl => match us, hl with | [_, _], _ => rfl) sc__law_digits len__law_digits (fun cdv A outer s H E hr => d__law_digits m_int hr) wp__law_digits
  obtain ⟨fd__law_value, F__law_value⟩ := c.d.def_ 16 (d := dd__law_value) rfl
  have e__law_value := He.glo_ok X G (c.d.fact 16 (f := .glo "_law_value") rfl)
  have h__law_value : ∀ base : Heap, Has P w K mg base "_law_value" 1 ["base", "text"] sp__law_value := fun base => mk_has F__law_value e__law_value (F__law_value.bindsN fun _ _ _ _ _ _ us hl => match us, hl with | [_, _], _ => rfl) sc__law_value len__law_value (fun cdv A outer s H E hr => d__law_value  hr) wp__law_value
  obtain ⟨fd__law_power, F__law_power⟩ := c.d.def_ 17 (d := dd__law_power) rfl
  have e__law_power := He.glo_ok X G (c.d.fact 17 (f := .glo "_law_power") rfl)
  have h__law_power : ∀ base : Heap, Has P w K mg base "_law_power" 1 ["base", "many"] sp__law_power := fun base => mk_has F__law_power e__law_power (F__law_power.bindsN fun _ _ _ _ _ _ us hl => match us, hl with | [_, _], _ => rfl) sc__law_power len__law_power (fun cdv A outer s H E hr => d__law_power m_range hr) wp__law_power
  obtain ⟨fd__law_completed, F__law_completed⟩ := c.d.def_ 18 (d := dd__law_completed) rfl
  have e__law_completed := He.glo_ok X G (c.d.fact 18 (f := .glo "_law_completed") rfl)
  have h__law_completed : ∀ base : Heap, Has P w K mg base "_law_completed" 2 ["reader", "base", "first", "tail"] sp__law_completed := fun base => mk_has F__law_completed e__law_completed (F__law_completed.bindsN fun _ _ _ _ _ _ us hl => match us, hl with | [_, _, _, _], _ => rfl) sc__law_completed len__law_completed (fun cdv A outer s H E hr => d__law_completed (h__law_digits base) (h__law_power base) (h__law_value base) m_int m_len hr) wp__law_completed
  obtain ⟨fd__law_number, F__law_number⟩ := c.d.def_ 19 (d := dd__law_number) rfl
  have e__law_number := He.glo_ok X G (c.d.fact 19 (f := .glo "_law_number") rfl)
  have h__law_number : ∀ base : Heap, Has P w K mg base "_law_number" 3 ["state", "base", "many"] sp__law_number := fun base => mk_has F__law_number e__law_number (F__law_number.bindsN fun _ _ _ _ _ _ us hl => match us, hl with | [_, _, _], _ => rfl) sc__law_number len__law_number (fun cdv A outer s H E hr => d__law_number (h__law_draw base) m_max m_range hr) wp__law_number
  obtain ⟨fd__law_tail_of, F__law_tail_of⟩ := c.d.def_ 20 (d := dd__law_tail_of) rfl
  have e__law_tail_of := He.glo_ok X G (c.d.fact 20 (f := .glo "_law_tail_of") rfl)
  have h__law_tail_of : ∀ base : Heap, Has P w K mg base "_law_tail_of" 3 ["state", "base", "first"] sp__law_tail_of := fun base => mk_has F__law_tail_of e__law_tail_of (F__law_tail_of.bindsN fun _ _ _ _ _ _ us hl => match us, hl with | [_, _, _], _ => rfl) sc__law_tail_of len__law_tail_of (fun cdv A outer s H E hr => d__law_tail_of (h__law_digits base) (h__law_draw base) m_len m_range hr) wp__law_tail_of
  obtain ⟨fd__law_right, F__law_right⟩ := c.d.def_ 21 (d := dd__law_right) rfl
  have e__law_right := He.glo_ok X G (c.d.fact 21 (f := .glo "_law_right") rfl)
  have h__law_right : ∀ base : Heap, Has P w K mg base "_law_right" 4 ["base", "first", "tail"] sp__law_right := fun base => mk_has F__law_right e__law_right (F__law_right.bindsN fun _ _ _ _ _ _ us hl => match us, hl with | [_, _, _], _ => rfl) sc__law_right len__law_right (fun cdv A outer s H E hr => d__law_right (h__law_completed base) (h__law_digits base) (h__law_power base) (h__law_value base) (h_completed base) m_int m_len m_repr hr) wp__law_right
  obtain ⟨fd_law, F_law⟩ := c.d.def_ 22 (d := dd_law) rfl
  have e_law := He.glo_ok X G (c.d.fact 22 (f := .glo "law") rfl)
  have e := hfa.symm.trans e_law
  cases e
  have b := FunD.bindsA (ps := ["script"]) F_law fun _ _ _ _ _ _ us hl => match us, hl with | [_], _ => rfl
  exact ⟨fd_law, fun s v => b s [v] rfl, fun base _ _ => dfn_of F_law sc_law len_law (fun cdv A outer s H E hr => d_law (h__law_begin base) (h__law_draw base) (h__law_number base) (h__law_right base) (h__law_tail_of base) m_len m_min m_range hr) wp_law⟩
end Z
open PySem PySem.W PySem.Calls PyProof.Rows
theorem PySem.Challenge.cw_shortspans_k09_whole_tails_completed_holds : PySem.Challenge.rw_shortspans_k09_whole_tails_completed.Holds := by
  w_on; o_law
  refine HandSHeadRun.head_any (r := Z.R) (q := view Z.R.prog [37]) (H := Z.hk) (ob := Z.ob) (M := 3000) (loose := Z.loose) (d := HandSHeadRun.topDef Z.R.prog 37) (kwd := []) Z.ob_eq
    (by kernel_rfl) (fun s => by kernel_rfl) Z.run (by kernel_rfl) (by kernel_rfl) (by kernel_rfl) (by rfl) (by first | assumption | decide +kernel) (by decide +kernel) ⟨rfl, rfl, rfl, rfl, rfl, by decide +kernel⟩ ?hw ?hc
  case hw => w_witness2
  case hc =>
    refine Z.walk_G (l := PySem.Challenge.rw_shortspans_k09_whole_tails_completed) (n := 63) (k := 5) (x := "script") (sp := Z.sp_law) rfl (by decide) (by kernel_rfl) ⟨rfl, by decide, by decide⟩ Z.law_start ?F
    intro w mg fa h Y G hmg0
    obtain ⟨K, KX, c⟩ := Y
    have hmg : mg ("law" : PySem.Str) = some (.ref fa) := by
      have e : (HandSHeadRun.topDef Z.R.prog 37).name = ("law" : PySem.Str) := by kernel_rfl
      rw [← e]
      exact hmg0
    obtain ⟨fd, hb, hF⟩ := Z.facts (P := (PySem.Challenge.rw_shortspans_k09_whole_tails_completed).prog) (w := w) KX G hmg c
    exact ⟨K, fd, [], KX, by simp, by simp, by simp, hb, fun base h1 h2 _ => hF base h1 h2⟩
